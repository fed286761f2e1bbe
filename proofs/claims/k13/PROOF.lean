import PyProof.Rows.All
import PySem.Challenge.RW_evenstrand_k13_thinnest_thickest
import PyProof.Rows.All
import HandS.Base
import HandS.Call
import HandS.List
import HandS.Text
import HandS.StrMore
import KE.IntText
import KE.KDictKeyed
import KE.SortData
import HandS.ForMost
import HandS.Flow
import HandS.Style
import HandS.Wide
import HandS.WideBits
import HandS.Deep
import HandS.IsInst
import HandS.TupAny
import HandS.SortInts
import HandS.Zip
import HandS.Rev
import HandS.Walk
import HandS.More
import HandS.Conv
import HandS.SetFor
import HandS.HeadHook1
import HandS.HeadHook4
import HandS.Lambda
import KE.KIntText
import HandS.TupMul
import PyProof.StrOps2
import PyProof.NeKinds
import KE.DataMinMax
import HandS.EndTab
import HandS.Codes
import HandS.HeadEnd
import PyProof.DictStraight
import HandS.Dict
import HandS.Small
import PyProof.TupleOfSeq
import HandS.Iter
import KE.GoesMore
import KE.KDictItemsList
import KE.KDictList
import HandS.DictTup
import KE.KDictSum
import KE.KDictCopyH
import KE.KDictWalk
import KE.KDictDisplayH
import KE.KDictPairs
import KE.DataEq
import HandS.RaiseMore
import KE.GoesEnum
import HandS.NoneIn
import KE.KRevSl
import HandS.SortKw
import HandS.ListItems
import HandS.HeadWalk
import KE.DataMinKey
import HandS.FStr
import HandS.Strs
import PyProof.LongRange
import HandS.Defaults
import HandS.Exc
import HandS.Head0
import HandS.Head1
import HandS.Head2
import HandS.HeadHook2
import HandS.HeadHook3
set_option Elab.async false
set_option linter.all false
set_option maxRecDepth 100000
/-! the pure part: values, store, the small language, its meaning -/
namespace PV
open PySem L2

inductive Vl where
  | none
  | bool (b : Bool)
  | int (i : Int)
  | str (s : Str)
  | tup (vs : List Vl)
  | ref (i : Nat)

/-- what stands in the store -/
inductive Ob where
  | lst (vs : List Vl)
  | frz (vs : List Vl)
  | dct (kvs : List (Key × Vl))
  | ndc (kvs : List (NestedKey × Vl))
  | nfz (kvs : List (NestedKey × Vl))
  | dfz (kvs : List (Key × Vl))
  | ins (c : Str) (fs : List (Str × Vl))
  | tab (f : Str)

abbrev Mem := List Ob
abbrev K1 := Vl → Mem → Prop
abbrev KB := Bool → Mem → Prop
abbrev KL := List Vl → Mem → Prop
abbrev Sg := List (Option Vl)

def getS : Sg → Nat → Option Vl
  | [], _ => .none
  | x :: _, 0 => x
  | _ :: r, n + 1 => getS r n
def setS : Sg → Nat → Vl → Sg
  | [], _, _ => []
  | _ :: r, 0, v => some v :: r
  | x :: r, n + 1, v => x :: setS r n v
def clrS : Sg → Nat → Sg
  | [], _ => []
  | _ :: r, 0 => .none :: r
  | x :: r, n + 1 => x :: clrS r n
def clrsS (σ : Sg) : List Nat → Sg
  | [] => σ
  | i :: is => clrS (clrsS σ is) i

/-- the list at a place of the store -/
def lstAt (μ : Mem) (r : Nat) : Option (List Vl) :=
  match μ[r]? with
  | some (.lst vs) => some vs
  | some (.frz vs) => some vs
  | _ => .none
/-- .. that may be written -/
def mutAt (μ : Mem) (r : Nat) : Option (List Vl) :=
  match μ[r]? with
  | some (.lst vs) => some vs
  | _ => .none
/-- the dict at a place of the store; keys: ints and texts -/
def dctAt (μ : Mem) (r : Nat) : Option (List (Key × Vl)) :=
  match μ[r]? with
  | some (.dct kvs) => some kvs
  | some (.dfz kvs) => some kvs
  | _ => .none
/-- .. that may be written -/
def dctMut (μ : Mem) (r : Nat) : Option (List (Key × Vl)) :=
  match μ[r]? with
  | some (.dct kvs) => some kvs
  | _ => .none
/-- the object of a class -/
def insAt (μ : Mem) (r : Nat) : Option (Str × List (Str × Vl)) :=
  match μ[r]? with
  | some (.ins c fs) => some (c, fs)
  | _ => .none
def keyV : Key → Vl
  | .inl i => .int i
  | .inr s => .str s
/-- a field of an object written -/
def putA (f : Str) (v : Vl) : List (Str × Vl) → List (Str × Vl)
  | [] => [(f, v)]
  | (g, x) :: r => if g = f then (g, v) :: r else (g, x) :: putA f v r
/-- what is walked is not changed meanwhile, and may be changed behind -/
def thaw (lk : Option Nat) (μ : Mem) : Mem :=
  match lk with
  | some r => match μ[r]? with
    | some (.nfz kvs) => μ.set r (.ndc kvs)
    | some (.dfz kvs) => μ.set r (.dct kvs)
    | _ => μ
  | .none => μ
/-- the place, if it may be changed behind -/
def lockOf (μ : Mem) (r : Nat) : Option Nat :=
  match μ[r]? with
  | some (.dct _) => some r
  | some (.ndc _) => some r
  | _ => .none
def kOf : Vl → Option Key
  | .int i => some (.inl i)
  | .str s => some (.inr s)
  | _ => .none
section
variable {κ : Type} [DecidableEq κ]
def dget (kvs : List (κ × Vl)) (k : κ) : Option Vl := (kvs.find? fun kv => decide (kv.1 = k)).map (·.2)
def dput (kvs : List (κ × Vl)) (k : κ) (v : Vl) : List (κ × Vl) :=
  if (kvs.any fun kv => decide (kv.1 = k)) = true then kvs.map (fun kv => if kv.1 = k then (kv.1, v) else kv) else kvs ++ [(k, v)]
def dmerge (kvs more : List (κ × Vl)) : List (κ × Vl) := more.foldl (fun acc kv => dput acc kv.1 kv.2) kvs
end
def keyInt : Key → Option Int
  | .inl i => some i
  | .inr _ => .none
def lexII (p q : Int × Int) : Prop := p.1 < q.1 ∨ (p.1 = q.1 ∧ p.2 ≤ q.2)
def pairII : Vl → Option (Int × Int)
  | .tup [.int a, .int b] => some (a, b)
  | _ => .none
def iiV (x : Int × Int) : Vl := .tup [.int x.1, .int x.2]
def pairOf : Vl → Option (Key × Vl)
  | .tup [k, x] => (kOf k).map fun kk => (kk, x)
  | _ => .none
def seqOf (μ : Mem) : Vl → Option (List Vl)
  | .tup vs => some vs
  | .ref r => lstAt μ r
  | _ => .none

def truth (μ : Mem) : Vl → Option Bool
  | .none => some false
  | .bool b => some b
  | .int i => some (i != 0)
  | .tup vs => some (!vs.isEmpty)
  | .ref r => match lstAt μ r with
    | some vs => some (!vs.isEmpty)
    | .none => (dctMut μ r).map fun kvs => !kvs.isEmpty
  | .str s => if s.length ≤ sizeLine then some ((s.length : Int) != 0) else .none

def optAll {α β : Type} (f : α → Option β) : List α → Option (List β)
  | [] => some []
  | v :: vs => match f v, optAll f vs with
    | some d, some ds => some (d :: ds)
    | _, _ => .none
/-- a key of tuples, numbers, None -/
def nkD : Nat → Vl → Option NestedKey
  | 0, v => match v with
    | .none => some .none
    | .int i => some (.num i)
    | _ => .none
  | n + 1, v => match v with
    | .none => some .none
    | .int i => some (.num i)
    | .tup vs => (optAll (nkD n) vs).map NestedKey.tup
    | _ => .none
def nkOf : Vl → Option NestedKey
  | .tup vs => nkD 6 (.tup vs)
  | _ => .none
mutual
def keyVl : NestedKey → Vl
  | .none => .none
  | .num i => .int i
  | .text s => .str s
  | .tup ks => .tup (keyVls ks)
def keyVls : List NestedKey → List Vl
  | [] => []
  | k :: ks => keyVl k :: keyVls ks
end
/-- a pair: the key a tuple -/
def pairN : Vl → Option (NestedKey × Vl)
  | .tup [k, x] => (nkOf k).map fun kk => (kk, x)
  | _ => .none
/-- the dict at a place of the store; keys: tuples -/
def ndAt (μ : Mem) (r : Nat) : Option (List (NestedKey × Vl)) :=
  match μ[r]? with
  | some (.ndc kvs) => some kvs
  | some (.nfz kvs) => some kvs
  | some (.dct []) => some []
  | _ => .none
/-- .. that may be written -/
def ndMut (μ : Mem) (r : Nat) : Option (List (NestedKey × Vl)) :=
  match μ[r]? with
  | some (.ndc kvs) => some kvs
  | some (.dct []) => some []
  | _ => .none
/-- the entries as pairs -/
def itemV (p : NestedKey × Vl) : Vl := .tup [keyVl p.1, p.2]
/-- data without lists, to a depth -/
def toK : Nat → Vl → Option PyData
  | 0, v => match v with
    | .none => some .none
    | .int i => some (.int i)
    | .str s => some (.str s)
    | _ => .none
  | n + 1, v => match v with
    | .none => some .none
    | .int i => some (.int i)
    | .str s => some (.str s)
    | .tup vs => (optAll (toK n) vs).map PyData.tuple
    | _ => .none
def isTupD : PyData → Bool
  | .tuple (_ :: _) => true
  | _ => false
/-- what may be sorted: tuples, alike place by place -/
def srtOk (ds : List PyData) : Bool := ds.all fun d => isTupD d && ds.all fun e => PySem.W.alike d e
def encK (v : Vl) : PyData := (toK 10 v).getD .none
def vle (x y : Vl) : Prop := PySem.W.dataLt (encK y) (encK x) = false
/-- sorted, stable -/
def srtV (vs : List Vl) : List Vl := vs.mergeSort (PySem.W.dataLe false encK)
def srtW (vs : List Vl) (Q : List Vl → Prop) : Prop :=
  match optAll (toK 10) vs with
  | some ds => srtOk ds = true ∧ Q (srtV vs)
  | .none => False
/-- as data, to a depth -/
def toD (μ : Mem) : Nat → Vl → Option PyData
  | 0, v => match v with
    | .none => some .none
    | .bool b => some (.bool b)
    | .int i => some (.int i)
    | .str s => some (.str s)
    | _ => .none
  | n + 1, v => match v with
    | .none => some .none
    | .bool b => some (.bool b)
    | .int i => some (.int i)
    | .str s => some (.str s)
    | .tup vs => (optAll (toD μ n) vs).map PyData.tuple
    | .ref r => match lstAt μ r with
      | some vs => (optAll (toD μ n) vs).map PyData.list
      | .none => .none
def keyD : Key → PyData
  | .inl i => .int i
  | .inr s => .str s
/-- as data, dicts, too -/
def toR (μ : Mem) : Nat → Vl → Option PyData
  | 0, v => match v with
    | .none => some .none
    | .bool b => some (.bool b)
    | .int i => some (.int i)
    | .str s => some (.str s)
    | _ => .none
  | n + 1, v => match v with
    | .none => some .none
    | .bool b => some (.bool b)
    | .int i => some (.int i)
    | .str s => some (.str s)
    | .tup vs => (optAll (toR μ n) vs).map PyData.tuple
    | .ref r => match lstAt μ r with
      | some vs => (optAll (toR μ n) vs).map PyData.list
      | .none => match dctAt μ r with
        | some kvs => (optAll (toR μ n) (kvs.map (·.2))).map fun ds => PyData.dict (List.zip (kvs.map fun kv => keyD kv.1) ds)
        | .none => .none
/-- == -/
def strs2 : Vl → Vl → Option Bool
  | .str a, .str b => some (decide (a = b))
  | _, _ => .none
/-- a tuple against the empty one -/
def nilT : Vl → Vl → Option Bool
  | .tup vs, .tup [] => some vs.isEmpty
  | _, _ => .none
/-- a dict against the empty one -/
def nilN (μ : Mem) (x y : Vl) : Option Bool :=
  match x, y with
  | .ref r, .ref s => match ndAt μ r, ndAt μ s with
    | some kvs, some [] => some kvs.isEmpty
    | _, _ => .none
  | _, _ => .none
def eqV (μ : Mem) (x y : Vl) : Option Bool :=
  match strs2 x y with
  | some b => some b
  | .none => match nilT x y with
  | some b => some b
  | .none => match toD μ 60 x, toD μ 60 y with
    | some d, some e => if SeqAt.shaped d && SeqAt.shaped e then some (PyData.eqv d e) else .none
    | _, _ => nilN μ x y

def flat : Vl → Bool
  | .none => true
  | .bool _ => true
  | .int _ => true
  | .str _ => true
  | _ => false
/-- == of flat values: the one within, the one asked for -/
def eqF : Vl → Vl → Bool
  | .none, .none => true
  | .bool a, .bool b => a == b
  | .bool a, .int b => (if a then 1 else 0) == b
  | .int a, .bool b => a == (if b then 1 else 0)
  | .int a, .int b => a == b
  | .str a, .str b => a == b
  | _, _ => false

/-- where a thing with parts stands among others -/
def datsOf (μ : Mem) (x : Vl) (vs : List Vl) : Option (PyData × List PyData) :=
  match toD μ 60 x, optAll (toD μ 60) vs with
  | some d, some ds => if SeqAt.shaped d && ds.all SeqAt.shaped then some (d, ds) else .none
  | _, _ => .none
def inS (μ : Mem) (x : Vl) (vs : List Vl) (Q : Bool → Prop) : Prop :=
  match x with
  | .tup t => match datsOf μ (.tup t) vs with
    | some p => Q (p.2.any fun e => PyData.eqv e p.1)
    | .none => False
  | .none => match datsOf μ .none vs with
    | some p => Q (p.2.any fun e => PyData.eqv e p.1)
    | .none => False
  | x => (flat x && vs.all flat) = true ∧ Q (vs.any fun v => eqF v x)
/-- factors whose product may be made -/
def mulOk (i j : Int) : Prop := ∃ a b : Nat, i.natAbs < 2 ^ a ∧ j.natAbs < 2 ^ b ∧ a + b ≤ 134217728
def divOk (j : Int) : Prop := 0 < j ∧ ∃ n : Nat, j.natAbs < 2 ^ n ∧ 0 < n ∧ n ≤ 9000

/-- a text so often -/
def strMul (s : Str) (n : Nat) : Str := ⟨(List.replicate n s.cps).foldl (· ++ ·) #[]⟩
def binW (op : Operator) (μ : Mem) (x y : Vl) (Q : K1) : Prop :=
  match op with
  | .Add => match x, y with
    | .int i, .int j => Q (.int (i + j)) μ
    | .bool b, .int j => Q (.int (b.toInt + j)) μ
    | .tup a, .tup b => a.length + b.length ≤ sizeLine ∧ Q (.tup (a ++ b)) μ
    | .str a, .str b => a.length + b.length ≤ sizeLine ∧ Q (.str (a ++ b)) μ
    | .ref r, .ref s => match mutAt μ r, mutAt μ s with
      | some a, some b => a.length + b.length ≤ sizeLine ∧ Q (.ref μ.length) (μ ++ [.lst (a ++ b)])
      | _, _ => False
    | _, _ => False
  | .Sub => match x, y with
    | .int i, .int j => Q (.int (i - j)) μ
    | .bool b, .int j => Q (.int (b.toInt - j)) μ
    | .int i, .bool b => Q (.int (i - b.toInt)) μ
    | _, _ => False
  | .Mult => match x, y with
    | .int i, .int j => mulOk i j ∧ Q (.int (i * j)) μ
    | .ref r, .int k => match mutAt μ r with
      | some vs => (-(2 ^ 63) ≤ k ∧ k < 2 ^ 63 ∧ vs.length * k.toNat ≤ sizeLine) ∧ Q (.ref μ.length) (μ ++ [.lst (List.replicate k.toNat vs).flatten])
      | .none => False
    | .tup vs, .int k => (0 ≤ k ∧ k ≤ 1000 ∧ vs.length ≤ 1000) ∧ Q (.tup (List.replicate k.toNat vs).flatten) μ
    | .str s, .int k => (-1000 ≤ k ∧ k ≤ 1000 ∧ 1 ≤ s.length ∧ s.length ≤ 1000) ∧ Q (.str (strMul s k.toNat)) μ
    | _, _ => False
  | .FloorDiv => match x, y with
    | .int i, .int j => divOk j ∧ Q (.int (i / j)) μ
    | _, _ => False
  | .Mod => match x, y with
    | .int i, .int j => 0 < j ∧ Q (.int (i % j)) μ
    | _, _ => False
  | .Pow => match x, y with
    | .int i, .int j => (0 ≤ j ∧ j ≤ 1000000 ∧ i.natAbs < 2 ^ 64) ∧ Q (.int (i ^ j.toNat)) μ
    | _, _ => False
  | .LShift => match x, y with
    | .int i, .int j => (i = 1 ∧ 0 ≤ j ∧ j ≤ 1000) ∧ Q (.int (2 ^ j.toNat)) μ
    | _, _ => False
  | .RShift => match x, y with
    | .int i, .int j => 0 ≤ j ∧ Q (.int (i / 2 ^ j.toNat)) μ
    | _, _ => False
  | .BitAnd => match x, y with
    | .int i, .int j => (0 ≤ i ∧ j = 1) ∧ Q (.int (i % 2)) μ
    | _, _ => False
  | _ => False

def isNone : Vl → Bool
  | .none => true
  | _ => false
/-- the dict and the key -/
def dkW (μ : Mem) (y x : Vl) (Q : List (Key × Vl) → Key → Prop) : Prop :=
  match y with
  | .ref r => match dctAt μ r with
    | some kvs => match kOf x with
      | some k => Q kvs k
      | .none => False
    | .none => False
  | _ => False
/-- .. the key a tuple -/
def dnW (μ : Mem) (y x : Vl) (Q : List (NestedKey × Vl) → NestedKey → Prop) : Prop :=
  match y with
  | .ref r => match ndAt μ r with
    | some kvs => match nkOf x with
      | some k => Q kvs k
      | .none => False
    | .none => False
  | _ => False
/-- the text within the text -/
def inStr (j i : Str) : Bool := !(Builtin.Str.occurrences j i 0 j.length 1).isEmpty
def inW (μ : Mem) (y x : Vl) (Q : Bool → Prop) : Prop :=
  match x with
  | .str i => match y with
    | .str j => Q (inStr j i)
    | y => dkW μ y (.str i) fun kvs k => Q (dget kvs k).isSome
  | .tup _ => dnW μ y x fun kvs k => Q (dget kvs k).isSome
  | _ => dkW μ y x fun kvs k => Q (dget kvs k).isSome
def cmpW (op : CmpOp) (μ : Mem) (x y : Vl) (Q : K1) : Prop :=
  match op with
  | .Eq => match eqV μ x y with
    | some b => Q (.bool b) μ
    | .none => False
  | .NotEq => match eqV μ x y with
    | some b => Q (.bool (!b)) μ
    | .none => False
  | .Lt => match x, y with
    | .int i, .int j => Q (.bool (decide (i < j))) μ
    | _, _ => False
  | .LtE => match x, y with
    | .int i, .int j => Q (.bool (decide (i ≤ j))) μ
    | _, _ => False
  | .Gt => match x, y with
    | .int i, .int j => Q (.bool (decide (j < i))) μ
    | _, _ => False
  | .GtE => match x, y with
    | .int i, .int j => Q (.bool (decide (j ≤ i))) μ
    | _, _ => False
  | .Is => match y with
    | .none => Q (.bool (isNone x)) μ
    | .bool b => match x with
      | .bool c => Q (.bool (decide (c = b))) μ
      | _ => False
    | _ => False
  | .IsNot => match y with
    | .none => Q (.bool (!isNone x)) μ
    | .bool b => match x with
      | .bool c => Q (.bool (!decide (c = b))) μ
      | _ => False
    | _ => False
  | .In => match seqOf μ y with
    | some vs => inS μ x vs fun b => Q (.bool b) μ
    | .none => inW μ y x fun b => Q (.bool b) μ
  | .NotIn => match seqOf μ y with
    | some vs => inS μ x vs fun b => Q (.bool (!b)) μ
    | .none => inW μ y x fun b => Q (.bool (!b)) μ

/-- built-ins by name -/
inductive Bf where
  | len | sum | min2 | max2 | abs | int1 | bool1 | dict1 | all1 | any1 | list1 | tuple1 | sorted1 | isInt | isBool | isTuple | isList | isStr | min1 | max1
  deriving DecidableEq
/-- no object of an own class -/
def plainR (μ : Mem) (r : Nat) : Option Bool :=
  match μ[r]? with
  | some (.ins _ _) => .none
  | some (.tab _) => .none
  | some _ => some false
  | .none => .none
/-- the types that isinstance asks for, of a value -/
def isTy (f : Bf) (μ : Mem) (x : Vl) : Option Bool :=
  match f with
  | .isInt => match x with
    | .int _ => some true
    | .bool _ => some true
    | .ref r => plainR μ r
    | _ => some false
  | .isBool => match x with
    | .bool _ => some true
    | .ref r => plainR μ r
    | _ => some false
  | .isTuple => match x with
    | .tup _ => some true
    | .ref r => plainR μ r
    | _ => some false
  | .isStr => match x with
    | .str _ => some true
    | .ref r => plainR μ r
    | _ => some false
  | .isList => match x with
    | .ref r => match μ[r]? with
      | some (.lst _) => some true
      | some (.frz _) => some true
      | some (.dct _) => some false
      | some (.ndc _) => some false
      | some (.nfz _) => some false
      | some (.dfz _) => some false
      | some (.ins _ _) => .none
      | some (.tab _) => .none
      | .none => .none
    | _ => some false
  | _ => .none
def intOf : Vl → Option Int
  | .int i => some i
  | _ => .none
def strOf : Vl → Option Str
  | .str s => some s
  | _ => .none
def boolOf : Vl → Option Bool
  | .bool b => some b
  | _ => .none
def bfW (f : Bf) (μ : Mem) (xs : List Vl) (Q : K1) : Prop :=
  match f with
  | .len => match xs with
    | [x] => match x with
      | .str s => s.length ≤ sizeLine ∧ Q (.int s.length) μ
      | _ => match seqOf μ x with
        | some vs => Q (.int vs.length) μ
        | .none => match x with
          | .ref r => match dctAt μ r with
            | some kvs => Q (.int kvs.length) μ
            | .none => match ndAt μ r with
              | some kvs => Q (.int kvs.length) μ
              | .none => False
          | _ => False
    | _ => False
  | .sum => match xs with
    | [x] => match seqOf μ x with
      | some vs => match optAll intOf vs with
        | some ns => Q (.int ns.sum) μ
        | .none => False
      | .none => False
    | _ => False
  | .min2 => match xs with
    | [.int i, .int j] => Q (.int (min i j)) μ
    | [.int i, .int j, .int k] => Q (.int (min (min i j) k)) μ
    | _ => False
  | .max2 => match xs with
    | [.int i, .int j] => Q (.int (max i j)) μ
    | [.int i, .int j, .int k] => Q (.int (max (max i j) k)) μ
    | _ => False
  | .abs => match xs with
    | [.int i] => Q (.int i.natAbs) μ
    | _ => False
  | .int1 => match xs with
    | [.int i] => Q (.int i) μ
    | [.bool b] => Q (.int b.toInt) μ
    | [.str s] => match PySem.intText? s with
      | some n => s.length ≤ 4300 ∧ Q (.int n) μ
      | .none => False
    | _ => False
  | .bool1 => match xs with
    | [.int i] => Q (.bool (decide (i ≠ 0))) μ
    | [.bool b] => Q (.bool b) μ
    | _ => False
  | .dict1 => match xs with
    | [.ref r] => match lstAt μ r with
      | some vs => match optAll pairOf vs with
        | some kvs => Q (.ref μ.length) (μ ++ [.dct (dmerge [] kvs)])
        | .none => match optAll pairN vs with
          | some kvs => Q (.ref μ.length) (μ ++ [.ndc (dmerge [] kvs)])
          | .none => False
      | .none => match dctMut μ r with
        | some kvs => Q (.ref μ.length) (μ ++ [.dct kvs])
        | .none => False
    | _ => False
  | .all1 => match xs with
    | [.ref r] => match lstAt μ r with
      | some vs => match optAll boolOf vs with
        | some bs => Q (.bool (bs.all id)) μ
        | .none => False
      | .none => False
    | _ => False
  | .any1 => match xs with
    | [.ref r] => match lstAt μ r with
      | some vs => match optAll boolOf vs with
        | some bs => Q (.bool (bs.any id)) μ
        | .none => False
      | .none => False
    | _ => False
  | .list1 => match xs with
    | [x] => match seqOf μ x with
      | some vs => Q (.ref μ.length) (μ ++ [.lst vs])
      | .none => match x with
        | .ref r => match dctAt μ r with
          | some kvs => Q (.ref μ.length) (μ ++ [.lst (kvs.map fun p => keyV p.1)])
          | .none => False
        | _ => False
    | _ => False
  | .tuple1 => match xs with
    | [x] => match seqOf μ x with
      | some vs => Q (.tup vs) μ
      | .none => False
    | _ => False
  | .sorted1 => match xs with
    | [.ref r] => match lstAt μ r with
      | some vs => match optAll intOf vs with
        | some ns => ∀ ms : List Int, ms.Perm ns → ms.Pairwise (· ≤ ·) → Q (.ref μ.length) (μ ++ [.lst (ms.map Vl.int)])
        | .none => match optAll strOf vs with
          | some ss => ss.length < 64 ∧ ∀ ms : List Str, ms.Perm ss → PyProof.Rows.sortedS ms = true → Q (.ref μ.length) (μ ++ [.lst (ms.map Vl.str)])
          | .none => srtW vs fun ms => Q (.ref μ.length) (μ ++ [.lst ms])
      | .none => match dctMut μ r with
        | some kvs => match optAll keyInt (kvs.map (·.1)) with
          | some ns => ∀ ms : List Int, ms.Perm ns → ms.Pairwise (· ≤ ·) → Q (.ref μ.length) (μ ++ [.lst (ms.map Vl.int)])
          | .none => False
        | .none => match ndAt μ r with
          | some kvs => srtW (kvs.map fun p => keyVl p.1) fun ms => Q (.ref μ.length) (μ ++ [.lst ms])
          | .none => False
    | [.tup vs] => match optAll pairII vs with
      | some ps => ∀ ms : List (Int × Int), ms.Perm ps → ms.Pairwise lexII → Q (.ref μ.length) (μ ++ [.lst (ms.map iiV)])
      | .none => False
    | _ => False
  | .min1 => match xs with
    | [.ref r] => match lstAt μ r with
      | some vs => match optAll intOf vs with
        | some ns => 0 < ns.length ∧ ∀ m, m ∈ ns → (∀ y, y ∈ ns → m ≤ y) → Q (.int m) μ
        | .none => match optAll (toK 10) vs with
          | some ds => (srtOk ds = true ∧ 0 < vs.length) ∧ ∀ m, m ∈ vs → (∀ y, y ∈ vs → vle m y) → Q m μ
          | .none => False
      | .none => False
    | _ => False
  | .max1 => match xs with
    | [.ref r] => match lstAt μ r with
      | some vs => match optAll intOf vs with
        | some ns => 0 < ns.length ∧ ∀ m, m ∈ ns → (∀ y, y ∈ ns → y ≤ m) → Q (.int m) μ
        | .none => False
      | .none => False
    | [.tup vs] => match optAll intOf vs with
      | some ns => 0 < ns.length ∧ ∀ m, m ∈ ns → (∀ y, y ∈ ns → y ≤ m) → Q (.int m) μ
      | .none => False
    | _ => False
  | f => match xs with
    | [x] => match isTy f μ x with
      | some b => Q (.bool b) μ
      | .none => False
    | _ => False

def isLst (μ : Mem) : Vl → Bool
  | .ref r => (mutAt μ r).isSome
  | _ => false
/-- methods of lists -/
inductive Mf where
  | append | extend | pop | popAt | insert | count | index
  deriving DecidableEq
def mfW (f : Mf) (μ : Mem) (x : Vl) (xs : List Vl) (Q : K1) : Prop :=
  match x with
  | .ref r => match mutAt μ r with
    | some vs => match f with
      | .append => match xs with
        | [y] => vs.length < sizeLine ∧ Q .none (μ.set r (.lst (vs ++ [y])))
        | _ => False
      | .extend => match xs with
        | [.ref s] => match mutAt μ s with
          | some ws => vs.length + ws.length ≤ sizeLine ∧ Q .none (μ.set r (.lst (vs ++ ws)))
          | .none => False
        | _ => False
      | .pop => match xs with
        | [] => match vs[vs.length - 1]? with
          | some y => Q y (μ.set r (.lst vs.dropLast))
          | .none => False
        | _ => False
      | .popAt => match xs with
        | [.int i] => match ixN vs.length i with
          | some k => match vs[k]? with
            | some y => (-(2 ^ 63) ≤ i ∧ i < 2 ^ 63) ∧ Q y (μ.set r (.lst (vs.eraseIdx k)))
            | .none => False
          | .none => False
        | _ => False
      | .insert => match xs with
        | [.int i, y] => (vs.length < sizeLine ∧ 0 ≤ i ∧ i < 2 ^ 63) ∧ Q .none (μ.set r (.lst (vs.take i.toNat ++ [y] ++ vs.drop i.toNat)))
        | _ => False
      | .count => match xs with
        | [.int i] => match optAll intOf vs with
          | some ns => Q (.int (ns.count i : Nat)) μ
          | .none => False
        | _ => False
      | .index => match xs with
        | [y] => match y with
          | .tup t => match datsOf μ (.tup t) vs with
            | some p => (p.2.findIdx fun e => PyData.eqv e p.1) < vs.length ∧ Q (.int (p.2.findIdx fun e => PyData.eqv e p.1 : Nat)) μ
            | .none => False
          | y => ((flat y && vs.all flat) = true ∧ (vs.findIdx fun v => eqF v y) < vs.length) ∧ Q (.int (vs.findIdx fun v => eqF v y : Nat)) μ
        | _ => False
    | .none => False
  | _ => False

/-- xs[lo:hi] -/
def cutL {α : Type} (xs : List α) (lo hi : Option Int) : List α := (xs.drop (HT.sIx xs.length 0 lo)).take (HT.sIx xs.length xs.length hi - HT.sIx xs.length 0 lo)
def slcW (μ : Mem) (x : Vl) (lo hi : Option Int) (Q : K1) : Prop :=
  match x with
  | .tup vs => Q (.tup (cutL vs lo hi)) μ
  | .ref r => match lstAt μ r with
    | some vs => Q (.ref μ.length) (μ ++ [.lst (cutL vs lo hi)])
    | .none => False
  | .str s => s.length ≤ sizeLine ∧ Q (.str (cutS s lo hi)) μ
  | _ => False
def dixW (μ : Mem) (x i : Vl) (Q : K1) : Prop := dkW μ x i fun kvs k => match dget kvs k with
  | some v => Q v μ
  | .none => False
def dinxW (μ : Mem) (x i : Vl) (Q : K1) : Prop := dnW μ x i fun kvs k => match dget kvs k with
  | some v => Q v μ
  | .none => False
def idxW (μ : Mem) (x i : Vl) (Q : K1) : Prop :=
  match i with
  | .int i => match x with
    | .str s => s.length ≤ sizeLine ∧ match atI s.cps.toList i with
      | some c => Q (.str ⟨#[c]⟩) μ
      | .none => False
    | _ => match seqOf μ x with
      | some vs => match atI vs i with
        | some v => Q v μ
        | .none => False
      | .none => dixW μ x (.int i) Q
  | .str s => dixW μ x (.str s) Q
  | .tup t => dinxW μ x (.tup t) Q
  | _ => False

/-- methods of dicts -/
inductive Dm where
  | get2 | upd
  deriving DecidableEq
def isDct (μ : Mem) : Vl → Bool
  | .ref r => (dctAt μ r).isSome || (ndAt μ r).isSome
  | _ => false
def dmW (f : Dm) (μ : Mem) (x : Vl) (xs : List Vl) (Q : K1) : Prop :=
  match f with
  | .get2 => match xs with
    | [k, d] => match k with
      | .tup t => dnW μ x (.tup t) fun kvs k => Q ((dget kvs k).getD d) μ
      | _ => dkW μ x k fun kvs k => Q ((dget kvs k).getD d) μ
    | _ => False
  | .upd => match x, xs with
    | .ref r, [.ref s] => match dctMut μ r, dctMut μ s with
      | some kvs, some more => (r ≠ s ∧ kvs.length + more.length ≤ sizeLine) ∧ Q .none (μ.set r (.dct (dmerge kvs more)))
      | _, _ => False
    | _, _ => False

/-- forms of one part -/
inductive X1 where
  | lrng | repr | strI | isTL | rev | minD (d : Option Int) | maxD (d : Option Int) | srtSet | srtItems | trev | lvals | litems | kin (n : Str) (t : List (Str × Int)) | kix (n : Str) (t : List (Str × Int)) | minK (t : Nat) (f : Str) (j : Nat) | maxK (t : Nat) (f : Str) (j : Nat)
  deriving DecidableEq
/-- methods of texts -/
inductive Sm where
  | join | split | partition | strip | upper | startswith | replace
  deriving DecidableEq
def smW (f : Sm) (μ : Mem) (x : Vl) (xs : List Vl) (Q : K1) : Prop :=
  match x with
  | .str a => match f with
    | .join => match xs with
      | [y] => match seqOf μ y with
        | some vs => match optAll strOf vs with
          | some ys => (ys.map (·.length)).sum + ys.length * a.length ≤ 16777216 ∧ Q (.str (Txt.join a ys)) μ
          | .none => False
        | .none => False
      | _ => False
    | .split => match xs with
      | [.str b] => ((b.length == 0) = false ∧ a.length + 2 ≤ sizeLine) ∧ Q (.ref μ.length) (μ ++ [.lst ((Txt.split a b).map Vl.str)])
      | _ => False
    | .partition => match xs with
      | [.str b] => ((b.length == 0) = false ∧ a.length ≤ sizeLine) ∧ Q (.tup [.str (Txt.partition a b).1, .str (Txt.partition a b).2.1, .str (Txt.partition a b).2.2]) μ
      | _ => False
    | .strip => match xs with
      | [.str b] => a.length ≤ sizeLine ∧ Q (.str (Txt.stripChars a b)) μ
      | _ => False
    | .upper => match xs with
      | [] => a.length ≤ 5592405 ∧ Q (.str (Txt.upper a)) μ
      | _ => False
    | .startswith => match xs with
      | [.str b] => Q (.bool (Txt.startswith a b)) μ
      | _ => False
    | .replace => False
  | _ => False
/-- a text in an f-string -/
def fmtOf : Vl → Option Str
  | .str s => some s
  | .int i => some (toString i)
  | _ => .none
def fmtOk : Vl → Prop
  | .str s => s.length ≤ sizeLine
  | .int i => i.natAbs.log2 < 1920
  | _ => False
def isDisp : Vl → Bool
  | .tup _ => true
  | .ref _ => true
  | _ => false
def dfV : Option Int → Vl
  | .none => .none
  | .some i => .int i
def boolText (b : Bool) : Str := if b then "True" else "False"
/-- a tuple's j-th part, a number -/
def partInt (j : Nat) : Vl → Option Int
  | .tup ws => match ws[j]? with
    | some (.int i) => some i
    | _ => .none
  | _ => .none
/-- at i stands the first of the least -/
def FirstLe (ks : List Int) (i : Nat) : Prop := ∃ m, ks[i]? = some m ∧ (∀ k ∈ ks, m ≤ k) ∧ ∀ j k, j < i → ks[j]? = some k → m < k
def keyW (t : Nat) (f : Str) (j : Nat) (μ : Mem) (x : Vl) (g : Int → Int) (Q : K1) : Prop :=
  match x with
  | .ref r => match mutAt μ r with
    | some vs => match optAll (partInt j) vs with
      | some ks => (vs ≠ [] ∧ μ[t]? = some (.tab f)) ∧ ∀ i v, vs[i]? = some v → FirstLe (ks.map g) i → Q v μ
      | .none => False
    | .none => False
  | _ => False
def x1W (f : X1) (μ : Mem) (x : Vl) (Q : K1) : Prop :=
  match f with
  | .lrng => match x with
    | .int j => (-(2 ^ 62) ≤ j ∧ j ≤ 16777216) ∧ Q (.ref μ.length) (μ ++ [.lst ((List.range j.toNat).map fun (i : Nat) => Vl.int i)])
    | _ => False
  | .repr => match isDisp x, toD μ 40 x with
    | true, some d => (d.showable = true ∧ d.hasDict = false ∧ d.depth ≤ 60 ∧ d.shown.length ≤ sizeLine) ∧ Q (.str d.shown) μ
    | true, .none => match toR μ 60 x with
      | some d => (d.showable = true ∧ d.depth ≤ 60 ∧ d.shown.length ≤ sizeLine) ∧ Q (.str d.shown) μ
      | .none => False
    | false, _ => match x with
      | .none => Q (.str (Str.ofString "None")) μ
      | .int i => i.natAbs.log2 < 1920 ∧ Q (.str (toString i)) μ
      | .bool b => Q (.str (boolText b)) μ
      | .str s => (reprText s).length ≤ sizeLine ∧ Q (.str (reprText s)) μ
      | _ => False
  | .strI => match x with
    | .int i => i.natAbs.log2 < 1920 ∧ Q (.str (toString i)) μ
    | .bool b => Q (.str (boolText b)) μ
    | .str s => Q (.str s) μ
    | .tup vs => match toD μ 40 (.tup vs) with
      | some d => (d.showable = true ∧ d.hasDict = false ∧ d.depth ≤ 60 ∧ d.shown.length ≤ sizeLine) ∧ Q (.str d.shown) μ
      | .none => False
    | _ => False
  | .isTL => match isTy .isTuple μ x, isTy .isList μ x with
    | some a, some b => Q (.bool (a || b)) μ
    | _, _ => False
  | .rev => match x with
    | .tup vs => Q (.tup vs.reverse) μ
    | .ref r => match lstAt μ r with
      | some vs => Q (.ref μ.length) (μ ++ [.lst vs.reverse])
      | .none => False
    | _ => False
  | .minD d => match seqOf μ x with
    | some vs => match optAll intOf vs with
      | some ns => (ns = [] → Q (dfV d) μ) ∧ ∀ m, m ∈ ns → (∀ y ∈ ns, m ≤ y) → Q (.int m) μ
      | .none => False
    | .none => False
  | .kin _ t => match x with
    | .str s => Q (.bool (t.lookup s).isSome) μ
    | _ => False
  | .kix _ t => match x with
    | .str s => match t.lookup s with
      | some i => Q (.int i) μ
      | .none => False
    | _ => False
  | .maxD d => match seqOf μ x with
    | some vs => match optAll intOf vs with
      | some ns => (ns = [] → Q (dfV d) μ) ∧ ∀ m, m ∈ ns → (∀ y ∈ ns, y ≤ m) → Q (.int m) μ
      | .none => False
    | .none => False
  | .srtSet => match x with
    | .ref r => match lstAt μ r with
      | some vs => match optAll intOf vs with
        | some ns => ns.length + 1 < 4096 ∧ ∀ ms : List Int, ms.Pairwise (· < ·) → (∀ k, k ∈ ms ↔ k ∈ ns) → Q (.ref μ.length) (μ ++ [.lst (ms.map Vl.int)])
        | .none => False
      | .none => False
    | _ => False
  | .srtItems => match x with
    | .ref r => match ndAt μ r with
      | some kvs => srtW (kvs.map itemV) fun ms => Q (.ref μ.length) (μ ++ [.lst ms])
      | .none => match dctAt μ r with
        | some kvs => srtW (kvs.map fun p => Vl.tup [keyV p.1, p.2]) fun ms => Q (.ref μ.length) (μ ++ [.lst ms])
        | .none => False
    | _ => False
  | .lvals => match x with
    | .ref r => match dctAt μ r with
      | some kvs => Q (.ref μ.length) (μ ++ [.lst (kvs.map (·.2))])
      | .none => False
    | _ => False
  | .litems => match x with
    | .ref r => match dctMut μ r with
      | some kvs => Q (.ref μ.length) (μ ++ [.lst (kvs.map fun p => Vl.tup [keyV p.1, p.2])])
      | .none => False
    | _ => False
  | .minK t f j => keyW t f j μ x id Q
  | .maxK t f j => keyW t f j μ x (- ·) Q
  | .trev => match x with
    | .ref r => match lstAt μ r with
      | some vs => Q (.tup vs.reverse) μ
      | .none => False
    | _ => False

mutual
inductive Tg where
  | nm (i : Nat)
  | tp (ts : Tgs)
inductive Tgs where
  | nil
  | cons (t : Tg) (ts : Tgs)
end
mutual
def asgW : Tg → Vl → Sg → (Sg → Prop) → Prop
  | .nm i, v, σ, Q => Q (setS σ i v)
  | .tp ts, v, σ, Q => match v with
    | .tup vs => asgsW ts vs σ Q
    | _ => False
def asgsW : Tgs → List Vl → Sg → (Sg → Prop) → Prop
  | .nil, vs, σ, Q => match vs with
    | [] => Q σ
    | _ => False
  | .cons t ts, vs, σ, Q => match vs with
    | v :: r => asgW t v σ fun σ' => asgsW ts r σ' Q
    | _ => False
end

/-- a tuple's targets, a tuple or a list behind the = -/
def unpW (ts : Tgs) (v : Vl) (μ : Mem) (σ : Sg) (Q : Sg → Prop) : Prop :=
  match v with
  | .ref r => match lstAt μ r with
    | some vs => asgsW ts vs σ Q
    | .none => False
  | v => asgW (.tp ts) v σ Q
mutual
inductive IE where
  | nop
  | var (i : Nat)
  | glb (x : Str)
  | cst (v : Vl)
  | bin (op : Operator) (a b : IE)
  | neg (a : IE)
  | cmp (op : CmpOp) (a b : IE)
  | chn (op op2 : CmpOp) (a b c : IE)
  | and (a b : IE)
  | or (a b : IE)
  | not (a : IE)
  | ite (c a b : IE)
  | tup (es : Es)
  | lst (es : Es)
  | idx (a i : IE)
  | slc (a : IE) (lo hi : Op)
  | call (f : Str) (es : Es)
  | blt (f : Bf) (es : Es)
  | mth (f : Mf) (a : IE) (es : Es)
  | lc (own : List (Str × Nat)) (elt : IE) (tg : Tg) (it : Itb) (c : IE)
  | x1 (f : X1) (a : IE)
  | dnew
  | dsp (ds : Ds)
  | dm (f : Dm) (a : IE) (es : Es)
  | ch3 (op op2 op3 : CmpOp) (a b c d : IE)
  | lr2 (a b : IE)
  | dsp1 (k v : IE)
  | sm (f : Sm) (a : IE) (es : Es)
  | fst (es : Es)
  | fld (c : Str) (a : IE) (f : Str)
  | mcl (c : Str) (a : IE) (m : Str) (es : Es)
  | new (c : Str) (es : Es)
inductive Ds where
  | nil
  | cons (k v : IE) (ds : Ds)
inductive Op where
  | no
  | yes (e : IE)
inductive Es where
  | nil
  | cons (e : IE) (es : Es)
inductive Itb where
  | sq (e : IE)
  | rng1 (e : IE)
  | rng2 (a b : IE)
  | zip (a b : IE)
  | enm (a : IE)
  | rev (a : IE)
  | dks (a : IE)
  | dit (a : IE)
  | zip3 (a b c : IE)
  | sgs (e : IE)
end

/-- what a loop walks: the items, the lists that must stand still meanwhile, what is locked meanwhile -/
structure Wk where
  items : List Vl
  src : List (Nat × List Vl)
  lk : Option Nat
/-- a method's name -/
def mName (c m : Str) : Str := c ++ "." ++ m
def gd (μ : Mem) : List (Nat × List Vl) → Prop
  | [] => True
  | p :: r => lstAt μ p.1 = some p.2 ∧ gd μ r
def srcOf : Vl → List Vl → List (Nat × List Vl)
  | .ref r, vs => [(r, vs)]
  | _, _ => []

/-- lists, tuples -/
def alike : Vl → Vl → Bool
  | .ref _, .ref _ => true
  | .tup _, .tup _ => true
  | .tup _, .ref _ => true
  | .ref _, .tup _ => true
  | _, _ => false
/-- three lists or tuples -/
def isSq : Vl → Bool
  | .ref _ => true
  | .tup _ => true
  | _ => false
def refs3 (x y z : Vl) : Bool := isSq x && isSq y && isSq z
def zip3V (vs ws us : List Vl) : List Vl := List.zipWith (fun v (p : Vl × Vl) => Vl.tup [v, p.1, p.2]) vs (List.zip ws us)
/-- the functions' meaning -/
abbrev FnT := Str → List Vl → Mem → K1 → Prop

/-- the turns of a comprehension: its list stands at D -/
def lcW (D : Nat) (src : List (Nat × List Vl)) (asg : Vl → Sg → (Sg → Prop) → Prop) (cond : Sg → Mem → KB → Prop) (elt : Sg → Mem → K1 → Prop) (σ : Sg) : List Vl → Mem → (Mem → Prop) → Prop
  | [], μ, Q => gd μ src ∧ Q μ
  | x :: xs, μ, Q => gd μ src ∧ asg x σ fun σ' => cond σ' μ fun b μ1 =>
      if b = true then elt σ' μ1 fun y μ2 => match mutAt μ2 D with
        | some acc => acc.length < sizeLine ∧ lcW D src asg cond elt σ xs (μ2.set D (.lst (acc ++ [y]))) Q
        | .none => False
      else lcW D src asg cond elt σ xs μ1 Q

def tst (Q : KB) : K1 := fun v μ => match truth μ v with
  | some b => Q b μ
  | .none => False

section
variable (Φ : FnT) (G : List (Str × Vl))
mutual
def wE : IE → Sg → Mem → K1 → Prop
  | .nop, _, μ, Q => Q (.bool true) μ
  | .var i, σ, μ, Q => match getS σ i with
    | some v => Q v μ
    | .none => False
  | .glb x, _, μ, Q => match G.lookup x with
    | some v => Q v μ
    | .none => False
  | .cst v, _, μ, Q => Q v μ
  | .bin op a b, σ, μ, Q => wE a σ μ fun x μ1 => wE b σ μ1 fun y μ2 => binW op μ2 x y Q
  | .neg a, σ, μ, Q => wE a σ μ fun x μ1 => match x with
    | .int i => Q (.int (-i)) μ1
    | _ => False
  | .cmp op a b, σ, μ, Q => wE a σ μ fun x μ1 => wE b σ μ1 fun y μ2 => cmpW op μ2 x y Q
  | .chn op op2 a b c, σ, μ, Q => wE a σ μ fun x μ1 => wE b σ μ1 fun y μ2 => cmpW op μ2 x y fun v μ3 => match v with
    | .bool k => if k = true then wE c σ μ3 fun z μ4 => cmpW op2 μ4 y z Q else Q (.bool false) μ3
    | _ => False
  | .and a b, σ, μ, Q => wE a σ μ fun x μ1 => match truth μ1 x with
    | some k => if k = true then wE b σ μ1 Q else Q x μ1
    | .none => False
  | .or a b, σ, μ, Q => wE a σ μ fun x μ1 => match truth μ1 x with
    | some k => if k = true then Q x μ1 else wE b σ μ1 Q
    | .none => False
  | .not a, σ, μ, Q => wE a σ μ (tst fun k μ1 => Q (.bool (!k)) μ1)
  | .ite c a b, σ, μ, Q => wE c σ μ (tst fun k μ1 => if k = true then wE a σ μ1 Q else wE b σ μ1 Q)
  | .tup es, σ, μ, Q => wEs es σ μ fun vs μ1 => vs.length ≤ sizeLine ∧ Q (.tup vs) μ1
  | .lst es, σ, μ, Q => wEs es σ μ fun vs μ1 => vs.length ≤ sizeLine ∧ Q (.ref μ1.length) (μ1 ++ [.lst vs])
  | .idx a i, σ, μ, Q => wE a σ μ fun x μ1 => wE i σ μ1 fun y μ2 => idxW μ2 x y Q
  | .slc a lo hi, σ, μ, Q => wE a σ μ fun x μ1 => wO lo σ μ1 fun l μ2 => wO hi σ μ2 fun h μ3 => slcW μ3 x l h Q
  | .call f es, σ, μ, Q => wEs es σ μ fun vs μ1 => Φ f vs μ1 Q
  | .blt f es, σ, μ, Q => wEs es σ μ fun vs μ1 => bfW f μ1 vs Q
  | .mth f a es, σ, μ, Q => wE a σ μ fun x μ1 => isLst μ1 x = true ∧ wEs es σ μ1 fun vs μ2 => mfW f μ2 x vs Q
  | .lc own elt tg it c, σ, μ, Q => wI it σ μ fun k μ1 =>
      lcW μ1.length k.src (asgW tg) (fun σ μ Q => wE c σ μ (tst Q)) (fun σ μ Q => wE elt σ μ Q) (clrsS σ (own.map (·.2))) k.items (μ1 ++ [.lst []]) fun μ2 => Q (.ref μ1.length) μ2
  | .x1 f a, σ, μ, Q => wE a σ μ fun x μ1 => x1W f μ1 x Q
  | .dnew, _, μ, Q => Q (.ref μ.length) (μ ++ [.dct []])
  | .dsp ds, σ, μ, Q => wDs ds σ (μ ++ [.dct []]) fun kvs μ1 => (kvs.length ≤ 15 ∧ dctMut μ1 μ.length = some []) ∧ Q (.ref μ.length) (μ1.set μ.length (.dct (dmerge [] kvs)))
  | .dm f a es, σ, μ, Q => wE a σ μ fun x μ1 => isDct μ1 x = true ∧ wEs es σ μ1 fun vs μ2 => dmW f μ2 x vs Q
  | .ch3 op op2 op3 a b c d, σ, μ, Q => wE a σ μ fun x μ1 => wE b σ μ1 fun y μ2 => cmpW op μ2 x y fun v μ3 => match v with
    | .bool k => if k = true then wE c σ μ3 fun z μ4 => cmpW op2 μ4 y z fun v2 μ5 => match v2 with
        | .bool k2 => if k2 = true then wE d σ μ5 fun u μ6 => cmpW op3 μ6 z u Q else Q (.bool false) μ5
        | _ => False
      else Q (.bool false) μ3
    | _ => False
  | .lr2 a b, σ, μ, Q => wE a σ μ fun x μ1 => wE b σ μ1 fun y μ2 => match x, y with
    | .int i, .int j => (j - i).toNat ≤ 16777216 ∧ Q (.ref μ2.length) (μ2 ++ [.lst ((List.range (j - i).toNat).map fun (k : Nat) => Vl.int (i + k))])
    | _, _ => False
  | .dsp1 k v, σ, μ, Q => wE k σ (μ ++ [.dct []]) fun x μ1 => wE v σ μ1 fun y μ2 => match nkOf x with
    | some k => ndMut μ2 μ.length = some [] ∧ Q (.ref μ.length) (μ2.set μ.length (.ndc [(k, y)]))
    | .none => False
  | .sm f a es, σ, μ, Q => wE a σ μ fun x μ1 => (strOf x).isSome = true ∧ wEs es σ μ1 fun vs μ2 => smW f μ2 x vs Q
  | .fst es, σ, μ, Q => wFs es σ μ Str.empty fun s μ1 => Q (.str s) μ1
  | .fld c a f, σ, μ, Q => wE a σ μ fun x μ1 => match x with
    | .ref r => match insAt μ1 r with
      | some p => p.1 = c ∧ match p.2.lookup f with
        | some v => Q v μ1
        | .none => False
      | .none => False
    | _ => False
  | .mcl c a m es, σ, μ, Q => wE a σ μ fun x μ1 => match x with
    | .ref r => match insAt μ1 r with
      | some p => (p.1 = c ∧ p.2.lookup m = .none) ∧ wEs es σ μ1 fun vs μ2 => Φ (mName c m) (.ref r :: vs) μ2 Q
      | .none => False
    | _ => False
  | .new c es, σ, μ, Q => wEs es σ μ fun vs μ1 => Φ (mName c "__init__") (.ref μ1.length :: vs) (μ1 ++ [.ins c []]) fun v μ2 => isNone v = true ∧ Q (.ref μ1.length) μ2
/-- the parts of an f-string, one behind the other -/
def wFs : Es → Sg → Mem → Str → (Str → Mem → Prop) → Prop
  | .nil, _, μ, acc, Q => Q acc μ
  | .cons e es, σ, μ, acc, Q => wE e σ μ fun v μ1 => fmtOk v ∧ match fmtOf v with
    | some s => (acc ++ s).length ≤ sizeLine ∧ wFs es σ μ1 (acc ++ s) Q
    | .none => False
def wDs : Ds → Sg → Mem → (List (Key × Vl) → Mem → Prop) → Prop
  | .nil, _, μ, Q => Q [] μ
  | .cons k v ds, σ, μ, Q => wE k σ μ fun x μ1 => wE v σ μ1 fun y μ2 => match kOf x with
    | some kk => wDs ds σ μ2 fun kvs μ3 => Q ((kk, y) :: kvs) μ3
    | .none => False
def wO : Op → Sg → Mem → (Option Int → Mem → Prop) → Prop
  | .no, _, μ, Q => Q .none μ
  | .yes e, σ, μ, Q => wE e σ μ fun x μ1 => match x with
    | .int i => Q (some i) μ1
    | _ => False
def wEs : Es → Sg → Mem → KL → Prop
  | .nil, _, μ, Q => Q [] μ
  | .cons e es, σ, μ, Q => wE e σ μ fun x μ1 => wEs es σ μ1 fun xs μ2 => Q (x :: xs) μ2
def wI : Itb → Sg → Mem → (Wk → Mem → Prop) → Prop
  | .sq e, σ, μ, Q => wE e σ μ fun x μ1 => match seqOf μ1 x with
    | some vs => Q ⟨vs, srcOf x vs, .none⟩ μ1
    | .none => False
  | .rng1 e, σ, μ, Q => wE e σ μ fun x μ1 => match x with
    | .int j => (-(2 ^ 62) ≤ j ∧ j < 2 ^ 62) ∧ Q ⟨(List.range j.toNat).map fun (i : Nat) => Vl.int i, [], .none⟩ μ1
    | _ => False
  | .rng2 a b, σ, μ, Q => wE a σ μ fun x μ1 => wE b σ μ1 fun y μ2 => match x, y with
    | .int i, .int j => Q ⟨(List.range (j - i).toNat).map fun (k : Nat) => Vl.int (i + k), [], .none⟩ μ2
    | _, _ => False
  | .zip a b, σ, μ, Q => wE a σ μ fun x μ1 => wE b σ μ1 fun y μ2 => match seqOf μ2 x, seqOf μ2 y with
    | some vs, some ws => alike x y = true ∧ Q ⟨List.zipWith (fun v w => Vl.tup [v, w]) vs ws, srcOf x vs ++ srcOf y ws, .none⟩ μ2
    | _, _ => False
  | .enm a, σ, μ, Q => wE a σ μ fun x μ1 => match seqOf μ1 x with
    | some vs => Q ⟨vs.zipIdx.map fun p => Vl.tup [.int p.2, p.1], srcOf x vs, .none⟩ μ1
    | .none => False
  | .rev a, σ, μ, Q => wE a σ μ fun x μ1 => match seqOf μ1 x with
    | some vs => Q ⟨vs.reverse, srcOf x vs, .none⟩ μ1
    | .none => False
  | .dks a, σ, μ, Q => wE a σ μ fun x μ1 => match x with
    | .ref r => match ndAt μ1 r with
      | some kvs => Q ⟨kvs.map fun p => keyVl p.1, [], lockOf μ1 r⟩ (μ1.set r (.nfz kvs))
      | .none => match dctAt μ1 r with
        | some kvs => Q ⟨kvs.map fun p => keyV p.1, [], lockOf μ1 r⟩ (μ1.set r (.dfz kvs))
        | .none => False
    | _ => False
  | .dit a, σ, μ, Q => wE a σ μ fun x μ1 => match x with
    | .ref r => match ndAt μ1 r with
      | some kvs => Q ⟨kvs.map itemV, [], lockOf μ1 r⟩ (μ1.set r (.nfz kvs))
      | .none => match dctAt μ1 r with
        | some kvs => Q ⟨kvs.map fun p => Vl.tup [keyV p.1, p.2], [], lockOf μ1 r⟩ (μ1.set r (.dfz kvs))
        | .none => False
    | _ => False
  | .zip3 a b c, σ, μ, Q => wE a σ μ fun x μ1 => wE b σ μ1 fun y μ2 => wE c σ μ2 fun z μ3 => match seqOf μ3 x, seqOf μ3 y, seqOf μ3 z with
    | some vs, some ws, some us => refs3 x y z = true ∧ Q ⟨zip3V vs ws us, srcOf x vs ++ srcOf y ws ++ srcOf z us, .none⟩ μ3
    | _, _, _ => False
  | .sgs e, σ, μ, Q => wE e σ μ fun x μ1 => match x with
    | .str s => Q ⟨s.cps.toList.map fun c => Vl.str ⟨#[c]⟩, [], .none⟩ μ1
    | _ => False
end
end

mutual
inductive IS where
  | asg (i : Nat) (e : IE)
  | asgT (ts : Tgs) (e : IE)
  | par (is : List Nat) (es : Es)
  | aug (i : Nat) (op : Operator) (e : IE)
  | sto (o i e : IE)
  | augS (o i : IE) (op : Operator) (e : IE)
  | exp (e : IE)
  | ret (e : IE)
  | retN
  | ifs (c : IE) (a b : IB)
  | whl (c : IE) (b : IB)
  | fr (t : Tg) (it : Itb) (b : IB)
  | pass
  | brk
  | cnt
  | sfld (c : Str) (o : IE) (f : Str) (e : IE)
  | never
  | tryN (b : IB)
inductive IB where
  | nil
  | cons (s : IS) (b : IB)
end

def setsS : Sg → List Nat → List Vl → Sg
  | σ, i :: is, v :: vs => setsS (setS σ i v) is vs
  | σ, _, _ => σ
/-- what is wanted behind a statement -/
structure En where
  nx : Sg → Mem → Prop
  rt : K1
  bk : Sg → Mem → Prop
  ct : Sg → Mem → Prop

def dstW (μ : Mem) (r : Nat) (i v : Vl) (Q : Mem → Prop) : Prop := dkW μ (.ref r) i fun kvs k => (dctMut μ r).isSome = true ∧ kvs.length < sizeLine ∧ Q (μ.set r (.dct (dput kvs k v)))
def dsnW (μ : Mem) (r : Nat) (i v : Vl) (Q : Mem → Prop) : Prop :=
  match ndMut μ r with
  | some kvs => match nkOf i with
    | some k => kvs.length < sizeLine ∧ Q (μ.set r (.ndc (dput kvs k v)))
    | .none => False
  | .none => False
def stoW (μ : Mem) (o i v : Vl) (Q : Mem → Prop) : Prop :=
  match o with
  | .ref r => match i with
    | .int k => match mutAt μ r with
      | some vs => match ixN vs.length k with
        | some j => Q (μ.set r (.lst (vs.set j v)))
        | .none => False
      | .none => dstW μ r (.int k) v Q
    | .str k => dstW μ r (.str k) v Q
    | .tup t => dsnW μ r (.tup t) v Q
    | _ => False
  | _ => False

def dgtW (μ : Mem) (r : Nat) (i : Vl) (Q : Vl → Prop) : Prop := dkW μ (.ref r) i fun kvs k => match dget kvs k with
  | some v => Q v
  | .none => False
def getW (μ : Mem) (o i : Vl) (Q : Vl → Prop) : Prop :=
  match o with
  | .ref r => match i with
    | .int k => match mutAt μ r with
      | some vs => match atI vs k with
        | some v => Q v
        | .none => False
      | .none => dgtW μ r (.int k) Q
    | .str k => dgtW μ r (.str k) Q
    | .tup t => dnW μ (.ref r) (.tup t) fun kvs k => match dget kvs k with
      | some v => Q v
      | .none => False
    | _ => False
  | _ => False
def augW (op : Operator) (v w : Vl) (Q : Vl → Prop) : Prop :=
  match op, v, w with
  | .Add, .int m, .int n => Q (.int (m + n))
  | .Sub, .int m, .int n => Q (.int (m - n))
  | _, _, _ => False
/-- what is wanted behind a walk -/
def thD : Option Nat → En → En
  | .none, D => D
  | some p, D => ⟨fun σ μ => D.nx σ (thaw (some p) μ), D.rt, D.bk, D.ct⟩
abbrev WB := En → Sg → Mem → Prop
def whlW (c : Sg → Mem → K1 → Prop) (b : WB) : Nat → WB
  | 0, _, _, _ => False
  | n + 1, D, σ, μ => c σ μ (tst fun k μ1 => if k = true then b ⟨whlW c b n D, D.rt, D.nx, whlW c b n D⟩ σ μ1 else D.nx σ μ1)
def frW (src : List (Nat × List Vl)) (asg : Vl → Sg → (Sg → Prop) → Prop) (b : WB) : List Vl → WB
  | [], D, σ, μ => gd μ src ∧ D.nx σ μ
  | x :: xs, D, σ, μ => gd μ src ∧ asg x σ fun σ1 => b ⟨frW src asg b xs D, D.rt, D.nx, frW src asg b xs D⟩ σ1 μ

section
variable (Φ : FnT) (G : List (Str × Vl))
mutual
def wS : IS → WB
  | .asg i e, D, σ, μ => wE Φ G e σ μ fun v μ1 => D.nx (setS σ i v) μ1
  | .asgT ts e, D, σ, μ => wE Φ G e σ μ fun v μ1 => unpW ts v μ1 σ fun σ1 => D.nx σ1 μ1
  | .par is es, D, σ, μ => wEs Φ G es σ μ fun vs μ1 => is.length = vs.length ∧ D.nx (setsS σ is vs) μ1
  | .aug i op e, D, σ, μ => match getS σ i with
    | some v => wE Φ G e σ μ fun w μ1 => match op, v, w with
      | .Add, .int m, .int n => D.nx (setS σ i (.int (m + n))) μ1
      | .Sub, .int m, .int n => D.nx (setS σ i (.int (m - n))) μ1
      | _, _, _ => False
    | .none => False
  | .sto o i e, D, σ, μ => wE Φ G e σ μ fun v μ1 => wE Φ G o σ μ1 fun x μ2 => wE Φ G i σ μ2 fun y μ3 => stoW μ3 x y v fun μ4 => D.nx σ μ4
  | .augS o i op e, D, σ, μ => wE Φ G o σ μ fun x μ1 => wE Φ G i σ μ1 fun y μ2 => getW μ2 x y fun v => wE Φ G e σ μ2 fun w μ3 => augW op v w fun z => stoW μ3 x y z fun μ4 => D.nx σ μ4
  | .exp e, D, σ, μ => wE Φ G e σ μ fun _ μ1 => D.nx σ μ1
  | .ret e, D, σ, μ => wE Φ G e σ μ D.rt
  | .retN, D, _, μ => D.rt .none μ
  | .ifs c a b, D, σ, μ => wE Φ G c σ μ (tst fun k μ1 => if k = true then wB a D σ μ1 else wB b D σ μ1)
  | .whl c b, D, σ, μ => ∃ n, whlW (wE Φ G c) (wB b) n D σ μ
  | .fr t it b, D, σ, μ => wI Φ G it σ μ fun k μ1 => frW k.src (asgW t) (wB b) k.items (thD k.lk D) σ μ1
  | .pass, D, σ, μ => D.nx σ μ
  | .brk, D, σ, μ => D.bk σ μ
  | .cnt, D, σ, μ => D.ct σ μ
  | .sfld c o f e, D, σ, μ => wE Φ G e σ μ fun v μ1 => wE Φ G o σ μ1 fun x μ2 => match x with
    | .ref r => match insAt μ2 r with
      | some p => (p.1 = c ∧ p.2.length < 900) ∧ D.nx σ (μ2.set r (.ins c (putA f v p.2)))
      | .none => False
    | _ => False
  | .never, _, _, _ => False
  | .tryN b, D, σ, μ => wB b D σ μ
def wB : IB → WB
  | .nil, D, σ, μ => D.nx σ μ
  | .cons s b, D, σ, μ => wS s ⟨wB b D, D.rt, D.bk, D.ct⟩ σ μ
end
end

/-- a def -/
structure Fd where
  nm : Str
  ps : List Str
  ds : List Vl
  N : List Str
  body : IB
  own : Option (Str × Str)

def startS (n : Nat) (vs : List Vl) : Sg := vs.map some ++ List.replicate (n - vs.length) .none
/-- the defs' meaning, to a depth of calls -/
def phi (F : List Fd) (G : List (Str × Vl)) : Nat → FnT
  | 0, _, _, _, _ => False
  | k + 1, f, vs, μ, Q => match F.find? (fun d => decide (d.nm = f)) with
    | some d => vs.length = d.ps.length ∧ wB (phi F G k) G d.body ⟨fun _ μ1 => Q .none μ1, Q, fun _ _ => False, fun _ _ => False⟩ (startS d.N.length vs) μ
    | .none => False
end PV

/-! monotone -/
namespace PV
open PySem L2

theorem dkW_mono {μ : Mem} {y x : Vl} {Q Q2 : List (Key × Vl) → Key → Prop} (hQ : ∀ kvs k, Q kvs k → Q2 kvs k) (h : dkW μ y x Q) : dkW μ y x Q2 := by
  unfold dkW at h ⊢
  repeat' split at h
  all_goals first
    | exact False.elim h
    | exact hQ _ _ h
theorem dnW_mono {μ : Mem} {y x : Vl} {Q Q2 : List (NestedKey × Vl) → NestedKey → Prop} (hQ : ∀ kvs k, Q kvs k → Q2 kvs k) (h : dnW μ y x Q) : dnW μ y x Q2 := by
  unfold dnW at h ⊢
  repeat' split at h
  all_goals first
    | exact False.elim h
    | exact hQ _ _ h
theorem inW_mono {μ : Mem} {y x : Vl} {Q Q2 : Bool → Prop} (hQ : ∀ b, Q b → Q2 b) (h : inW μ y x Q) : inW μ y x Q2 := by
  cases x with
  | tup vs => exact dnW_mono (Q := fun kvs k => Q (dget kvs k).isSome) (Q2 := fun kvs k => Q2 (dget kvs k).isSome) (fun _ _ q => hQ _ q) h
  | str i =>
    cases y with
    | str j => exact hQ _ h
    | _ =>
      simp only [inW] at h ⊢
      exact dkW_mono (fun _ _ q => hQ _ q) h
  | _ =>
    simp only [inW] at h ⊢
    exact dkW_mono (fun _ _ q => hQ _ q) h
theorem dsnW_mono {μ : Mem} {r : Nat} {i v : Vl} {Q Q2 : Mem → Prop} (hQ : ∀ μ, Q μ → Q2 μ) (h : dsnW μ r i v Q) : dsnW μ r i v Q2 := by
  unfold dsnW at h ⊢
  repeat' split at h
  all_goals first
    | exact False.elim h
    | exact ⟨h.1, hQ _ h.2⟩
theorem srtW_mono {vs : List Vl} {Q Q2 : List Vl → Prop} (hQ : ∀ ms, Q ms → Q2 ms) (h : srtW vs Q) : srtW vs Q2 := by
  unfold srtW at h ⊢
  split at h
  · exact ⟨h.1, hQ _ h.2⟩
  · exact False.elim h
section
variable {op : Operator} {co : CmpOp} {μ : Mem} {x y : Vl} {Q Q2 : K1}
theorem binW_mono (hQ : ∀ v μ, Q v μ → Q2 v μ) (h : binW op μ x y Q) : binW op μ x y Q2 := by
  unfold binW at h ⊢
  repeat' split at h
  all_goals first
    | exact False.elim h
    | exact hQ _ _ h
    | exact ⟨h.1, hQ _ _ h.2⟩
theorem inS_mono {vs : List Vl} {P P2 : Bool → Prop} (hP : ∀ b, P b → P2 b) (h : inS μ x vs P) : inS μ x vs P2 := by
  unfold inS at h ⊢
  repeat' split at h
  all_goals first
    | exact False.elim h
    | exact hP _ h
    | exact ⟨h.1, hP _ h.2⟩
theorem cmpW_mono (hQ : ∀ v μ, Q v μ → Q2 v μ) (h : cmpW co μ x y Q) : cmpW co μ x y Q2 := by
  unfold cmpW at h ⊢
  repeat' split at h
  all_goals first
    | exact False.elim h
    | exact hQ _ _ h
    | exact ⟨h.1, hQ _ _ h.2⟩
    | exact inW_mono (fun _ q => hQ _ _ q) h
    | exact inS_mono (fun _ q => hQ _ _ q) h
theorem bfW_mono {f : Bf} {xs : List Vl} (hQ : ∀ v μ, Q v μ → Q2 v μ) (h : bfW f μ xs Q) : bfW f μ xs Q2 := by
  unfold bfW at h ⊢
  repeat' split at h
  all_goals first
    | exact False.elim h
    | exact hQ _ _ h
    | exact ⟨h.1, hQ _ _ h.2⟩
    | exact fun m a b => hQ _ _ (h m a b)
    | exact srtW_mono (fun _ q => hQ _ _ q) h
    | exact ⟨h.1, fun m a b => hQ _ _ (h.2 m a b)⟩
theorem mfW_mono {f : Mf} {xs : List Vl} (hQ : ∀ v μ, Q v μ → Q2 v μ) (h : mfW f μ x xs Q) : mfW f μ x xs Q2 := by
  unfold mfW at h ⊢
  repeat' split at h
  all_goals first
    | exact False.elim h
    | exact hQ _ _ h
    | exact ⟨h.1, hQ _ _ h.2⟩
theorem keyW_mono {t : Nat} {f : Str} {j : Nat} {g : Int → Int} (hQ : ∀ v μ, Q v μ → Q2 v μ) (h : keyW t f j μ x g Q) : keyW t f j μ x g Q2 := by
  unfold keyW at h ⊢
  repeat' split at h
  all_goals first
    | exact False.elim h
    | exact ⟨h.1, fun i v a b => hQ _ _ (h.2 i v a b)⟩
theorem x1W_mono {f : X1} (hQ : ∀ v μ, Q v μ → Q2 v μ) (h : x1W f μ x Q) : x1W f μ x Q2 := by
  unfold x1W at h ⊢
  repeat' split at h
  all_goals first
    | exact False.elim h
    | exact hQ _ _ h
    | exact ⟨h.1, hQ _ _ h.2⟩
    | exact srtW_mono (fun _ q => hQ _ _ q) h
    | exact keyW_mono hQ h
    | exact ⟨fun e => hQ _ _ (h.1 e), fun m a b => hQ _ _ (h.2 m a b)⟩
    | exact ⟨h.1, fun m a b => hQ _ _ (h.2 m a b)⟩
theorem slcW_mono {lo hi : Option Int} (hQ : ∀ v μ, Q v μ → Q2 v μ) (h : slcW μ x lo hi Q) : slcW μ x lo hi Q2 := by
  unfold slcW at h ⊢
  repeat' split at h
  all_goals first
    | exact False.elim h
    | exact hQ _ _ h
    | exact ⟨h.1, hQ _ _ h.2⟩
theorem smW_mono {f : Sm} {xs : List Vl} (hQ : ∀ v μ, Q v μ → Q2 v μ) (h : smW f μ x xs Q) : smW f μ x xs Q2 := by
  unfold smW at h ⊢
  repeat' split at h
  all_goals first
    | exact False.elim h
    | exact hQ _ _ h
    | exact ⟨h.1, hQ _ _ h.2⟩
theorem dixW_mono (hQ : ∀ v μ, Q v μ → Q2 v μ) (h : dixW μ x y Q) : dixW μ x y Q2 := by
  refine dkW_mono (fun kvs k q => ?_) h
  revert q
  cases dget kvs k with
  | none => exact fun q => q
  | some v => exact fun q => hQ _ _ q
theorem dinxW_mono (hQ : ∀ v μ, Q v μ → Q2 v μ) (h : dinxW μ x y Q) : dinxW μ x y Q2 := by
  refine dnW_mono (fun kvs k q => ?_) h
  revert q
  cases dget kvs k with
  | none => exact fun q => q
  | some v => exact fun q => hQ _ _ q
theorem idxW_mono (hQ : ∀ v μ, Q v μ → Q2 v μ) (h : idxW μ x y Q) : idxW μ x y Q2 := by
  unfold idxW at h ⊢
  repeat' split at h
  all_goals first
    | exact False.elim h
    | exact hQ _ _ h
    | exact False.elim h.2
    | exact ⟨h.1, hQ _ _ h.2⟩
    | exact dixW_mono hQ h
    | exact dinxW_mono hQ h
theorem dmW_mono {f : Dm} {xs : List Vl} (hQ : ∀ v μ, Q v μ → Q2 v μ) (h : dmW f μ x xs Q) : dmW f μ x xs Q2 := by
  unfold dmW at h ⊢
  repeat' split at h
  all_goals first
    | exact False.elim h
    | exact ⟨h.1, hQ _ _ h.2⟩
    | exact dnW_mono (fun _ _ q => hQ _ _ q) h
    | exact dkW_mono (fun _ _ q => hQ _ _ q) h
end

mutual
theorem asgW_mono : ∀ (t : Tg) (v : Vl) (σ : Sg) (Q Q2 : Sg → Prop), (∀ σ, Q σ → Q2 σ) → asgW t v σ Q → asgW t v σ Q2
  | .nm i, v, σ, Q, Q2, hQ, h => hQ _ h
  | .tp ts, v, σ, Q, Q2, hQ, h => by
    cases v with
    | tup vs => exact asgsW_mono ts vs σ Q Q2 hQ h
    | _ => exact False.elim h
theorem asgsW_mono : ∀ (ts : Tgs) (vs : List Vl) (σ : Sg) (Q Q2 : Sg → Prop), (∀ σ, Q σ → Q2 σ) → asgsW ts vs σ Q → asgsW ts vs σ Q2
  | .nil, vs, σ, Q, Q2, hQ, h => by
    cases vs with
    | nil => exact hQ _ h
    | cons v r => exact False.elim h
  | .cons t ts, vs, σ, Q, Q2, hQ, h => by
    cases vs with
    | nil => exact False.elim h
    | cons v r => exact asgW_mono t v σ _ _ (fun σ1 h1 => asgsW_mono ts r σ1 Q Q2 hQ h1) h
end

theorem unpW_mono {ts : Tgs} {v : Vl} {μ : Mem} {σ : Sg} {Q Q2 : Sg → Prop} (hQ : ∀ σ, Q σ → Q2 σ) (h : unpW ts v μ σ Q) : unpW ts v μ σ Q2 := by
  unfold unpW at h ⊢
  split at h
  · split at h
    · exact asgsW_mono ts _ σ _ _ hQ h
    · exact False.elim h
  · exact asgW_mono (.tp ts) _ σ _ _ hQ h
theorem tst_mono {Q Q2 : KB} (hQ : ∀ b μ, Q b μ → Q2 b μ) : ∀ v μ, tst Q v μ → tst Q2 v μ := fun v μ h => by
  unfold tst at h ⊢
  split at h
  · exact hQ _ _ h
  · exact False.elim h

theorem lcW_mono {D : Nat} {src : List (Nat × List Vl)} {asg : Vl → Sg → (Sg → Prop) → Prop} {cond cond2 : Sg → Mem → KB → Prop} {elt elt2 : Sg → Mem → K1 → Prop} {σ : Sg}
    (ha : ∀ v σ (Q Q2 : Sg → Prop), (∀ σ, Q σ → Q2 σ) → asg v σ Q → asg v σ Q2)
    (hc : ∀ σ μ (Q Q2 : KB), (∀ b μ, Q b μ → Q2 b μ) → cond σ μ Q → cond2 σ μ Q2) (he : ∀ σ μ (Q Q2 : K1), (∀ b μ, Q b μ → Q2 b μ) → elt σ μ Q → elt2 σ μ Q2) :
    ∀ (xs : List Vl) (μ : Mem) (Q Q2 : Mem → Prop), (∀ μ, Q μ → Q2 μ) → lcW D src asg cond elt σ xs μ Q → lcW D src asg cond2 elt2 σ xs μ Q2
  | [], μ, Q, Q2, hQ, h => ⟨h.1, hQ _ h.2⟩
  | x :: xs, μ, Q, Q2, hQ, h => by
    refine ⟨h.1, ha _ _ _ _ (fun σ1 h1 => hc _ _ _ _ (fun b μ1 h2 => ?_) h1) h.2⟩
    cases b with
    | false => exact lcW_mono ha hc he xs μ1 Q Q2 hQ h2
    | true =>
      refine he _ _ _ _ (fun y μ2 h3 => ?_) h2
      revert h3
      cases mutAt μ2 D with
      | none => exact fun h3 => h3
      | some acc => exact fun h3 => ⟨h3.1, lcW_mono ha hc he xs _ Q Q2 hQ h3.2⟩

/-- one meaning is below another -/
def FLe (Φ Φ2 : FnT) : Prop := ∀ f vs μ (Q Q2 : K1), (∀ v μ, Q v μ → Q2 v μ) → Φ f vs μ Q → Φ2 f vs μ Q2

section
variable {Φ Φ2 : FnT} {G : List (Str × Vl)} (hF : FLe Φ Φ2)
include hF
mutual
theorem wE_le : ∀ (e : IE) (σ : Sg) (μ : Mem) (Q Q2 : K1), (∀ v μ, Q v μ → Q2 v μ) → wE Φ G e σ μ Q → wE Φ2 G e σ μ Q2
  | .nop, σ, μ, Q, Q2, hQ, h => hQ _ _ h
  | .var i, σ, μ, Q, Q2, hQ, h => by
    simp only [wE] at h ⊢
    split at h
    · exact hQ _ _ h
    · exact False.elim h
  | .glb x, σ, μ, Q, Q2, hQ, h => by
    simp only [wE] at h ⊢
    split at h
    · exact hQ _ _ h
    · exact False.elim h
  | .cst v, σ, μ, Q, Q2, hQ, h => hQ _ _ h
  | .bin op a b, σ, μ, Q, Q2, hQ, h => wE_le a σ μ _ _ (fun x μ1 h1 => wE_le b σ μ1 _ _ (fun y μ2 h2 => binW_mono hQ h2) h1) h
  | .neg a, σ, μ, Q, Q2, hQ, h => wE_le a σ μ _ _ (fun x μ1 h1 => by
    cases x with
    | int i => exact hQ _ _ h1
    | _ => exact False.elim h1) h
  | .cmp op a b, σ, μ, Q, Q2, hQ, h => wE_le a σ μ _ _ (fun x μ1 h1 => wE_le b σ μ1 _ _ (fun y μ2 h2 => cmpW_mono hQ h2) h1) h
  | .chn op op2 a b c, σ, μ, Q, Q2, hQ, h => wE_le a σ μ _ _ (fun x μ1 h1 => wE_le b σ μ1 _ _ (fun y μ2 h2 => cmpW_mono (fun v μ3 h3 => by
    cases v with
    | bool k =>
      cases k with
      | true => exact wE_le c σ μ3 _ _ (fun z μ4 h4 => cmpW_mono hQ h4) h3
      | false => exact hQ _ _ h3
    | _ => exact False.elim h3) h2) h1) h
  | .and a b, σ, μ, Q, Q2, hQ, h => wE_le a σ μ _ _ (fun x μ1 h1 => by
    revert h1
    cases truth μ1 x with
    | none => exact fun h1 => h1
    | some k =>
      cases k with
      | true => exact fun h1 => wE_le b σ μ1 _ _ hQ h1
      | false => exact fun h1 => hQ _ _ h1) h
  | .or a b, σ, μ, Q, Q2, hQ, h => wE_le a σ μ _ _ (fun x μ1 h1 => by
    revert h1
    cases truth μ1 x with
    | none => exact fun h1 => h1
    | some k =>
      cases k with
      | false => exact fun h1 => wE_le b σ μ1 _ _ hQ h1
      | true => exact fun h1 => hQ _ _ h1) h
  | .not a, σ, μ, Q, Q2, hQ, h => wE_le a σ μ _ _ (tst_mono fun b μ1 h1 => hQ _ _ h1) h
  | .ite c a b, σ, μ, Q, Q2, hQ, h => wE_le c σ μ _ _ (tst_mono fun k μ1 h1 => by
    cases k with
    | true => exact wE_le a σ μ1 _ _ hQ h1
    | false => exact wE_le b σ μ1 _ _ hQ h1) h
  | .tup es, σ, μ, Q, Q2, hQ, h => wEs_le es σ μ _ _ (fun vs μ1 h1 => ⟨h1.1, hQ _ _ h1.2⟩) h
  | .lst es, σ, μ, Q, Q2, hQ, h => wEs_le es σ μ _ _ (fun vs μ1 h1 => ⟨h1.1, hQ _ _ h1.2⟩) h
  | .idx a b, σ, μ, Q, Q2, hQ, h => wE_le a σ μ _ _ (fun x μ1 h1 => wE_le b σ μ1 _ _ (fun y μ2 h2 => idxW_mono hQ h2) h1) h
  | .slc a lo hi, σ, μ, Q, Q2, hQ, h => wE_le a σ μ _ _ (fun x μ1 h1 => wO_le lo σ μ1 _ _ (fun y μ2 h2 => wO_le hi σ μ2 _ _ (fun z μ3 h3 => slcW_mono hQ h3) h2) h1) h
  | .call f es, σ, μ, Q, Q2, hQ, h => wEs_le es σ μ _ _ (fun vs μ1 h1 => hF _ _ _ _ _ hQ h1) h
  | .blt f es, σ, μ, Q, Q2, hQ, h => wEs_le es σ μ _ _ (fun vs μ1 h1 => bfW_mono hQ h1) h
  | .mth f a es, σ, μ, Q, Q2, hQ, h => wE_le a σ μ _ _ (fun x μ1 h1 => ⟨h1.1, wEs_le es σ μ1 _ _ (fun vs μ2 h2 => mfW_mono hQ h2) h1.2⟩) h
  | .lc own elt tg it c, σ, μ, Q, Q2, hQ, h => wI_le it σ μ _ _ (fun k μ1 h1 => lcW_mono (asgW_mono tg) (fun σ μ R R2 hR h2 => wE_le c σ μ _ _ (tst_mono hR) h2)
      (fun σ μ R R2 hR h2 => wE_le elt σ μ _ _ hR h2) k.items _ _ _ (fun μ2 h2 => hQ _ _ h2) h1) h
  | .x1 f a, σ, μ, Q, Q2, hQ, h => wE_le a σ μ _ _ (fun x μ1 h1 => x1W_mono hQ h1) h
  | .dnew, σ, μ, Q, Q2, hQ, h => hQ _ _ h
  | .dsp ds, σ, μ, Q, Q2, hQ, h => wDs_le ds σ _ _ _ (fun kvs μ1 h1 => ⟨h1.1, hQ _ _ h1.2⟩) h
  | .dm f a es, σ, μ, Q, Q2, hQ, h => wE_le a σ μ _ _ (fun x μ1 h1 => ⟨h1.1, wEs_le es σ μ1 _ _ (fun vs μ2 h2 => dmW_mono hQ h2) h1.2⟩) h
  | .ch3 op op2 op3 a b c d, σ, μ, Q, Q2, hQ, h => wE_le a σ μ _ _ (fun x μ1 h1 => wE_le b σ μ1 _ _ (fun y μ2 h2 => cmpW_mono (fun v μ3 h3 => by
    cases v with
    | bool k =>
      cases k with
      | true => exact wE_le c σ μ3 _ _ (fun z μ4 h4 => cmpW_mono (fun v2 μ5 h5 => by
          cases v2 with
          | bool k2 =>
            cases k2 with
            | true => exact wE_le d σ μ5 _ _ (fun u μ6 h6 => cmpW_mono hQ h6) h5
            | false => exact hQ _ _ h5
          | _ => exact False.elim h5) h4) h3
      | false => exact hQ _ _ h3
    | _ => exact False.elim h3) h2) h1) h
  | .dsp1 a b, σ, μ, Q, Q2, hQ, h => wE_le a σ _ _ _ (fun x μ1 h1 => wE_le b σ μ1 _ _ (fun y μ2 h2 => by
    split at h2
    · exact ⟨h2.1, hQ _ _ h2.2⟩
    · exact h2) h1) h
  | .lr2 a b, σ, μ, Q, Q2, hQ, h => wE_le a σ μ _ _ (fun x μ1 h1 => wE_le b σ μ1 _ _ (fun y μ2 h2 => by
    cases x with
    | int i =>
      cases y with
      | int j => exact ⟨h2.1, hQ _ _ h2.2⟩
      | _ => exact False.elim h2
    | _ => exact False.elim h2) h1) h
  | .sm f a es, σ, μ, Q, Q2, hQ, h => wE_le a σ μ _ _ (fun x μ1 h1 => ⟨h1.1, wEs_le es σ μ1 _ _ (fun vs μ2 h2 => smW_mono hQ h2) h1.2⟩) h
  | .fst es, σ, μ, Q, Q2, hQ, h => wFs_le es σ μ _ _ _ (fun s μ1 h1 => hQ _ _ h1) h
  | .fld c a f, σ, μ, Q, Q2, hQ, h => wE_le a σ μ _ _ (fun x μ1 h1 => by
    cases x with
    | ref r =>
      revert h1
      dsimp only
      cases insAt μ1 r with
      | none => exact fun h1 => h1
      | some p =>
        dsimp only
        cases p.2.lookup f with
        | none => exact fun h1 => h1
        | some v => exact fun h1 => ⟨h1.1, hQ _ _ h1.2⟩
    | _ => exact False.elim h1) h
  | .mcl c a m es, σ, μ, Q, Q2, hQ, h => wE_le a σ μ _ _ (fun x μ1 h1 => by
    cases x with
    | ref r =>
      revert h1
      dsimp only
      cases insAt μ1 r with
      | none => exact fun h1 => h1
      | some p => exact fun h1 => ⟨h1.1, wEs_le es σ μ1 _ _ (fun vs μ2 h2 => hF _ _ _ _ _ hQ h2) h1.2⟩
    | _ => exact False.elim h1) h
  | .new c es, σ, μ, Q, Q2, hQ, h => wEs_le es σ μ _ _ (fun vs μ1 h1 => hF _ _ _ _ _ (fun v μ2 h2 => ⟨h2.1, hQ _ _ h2.2⟩) h1) h
theorem wFs_le : ∀ (es : Es) (σ : Sg) (μ : Mem) (acc : Str) (Q Q2 : Str → Mem → Prop), (∀ v μ, Q v μ → Q2 v μ) → wFs Φ G es σ μ acc Q → wFs Φ2 G es σ μ acc Q2
  | .nil, σ, μ, acc, Q, Q2, hQ, h => hQ _ _ h
  | .cons e es, σ, μ, acc, Q, Q2, hQ, h => wE_le e σ μ _ _ (fun v μ1 h1 => by
    refine ⟨h1.1, ?_⟩
    have h2 := h1.2
    revert h2
    cases fmtOf v with
    | none => exact fun h => h
    | some s => exact fun h => ⟨h.1, wFs_le es σ μ1 _ _ _ hQ h.2⟩) h
theorem wDs_le : ∀ (ds : Ds) (σ : Sg) (μ : Mem) (Q Q2 : List (Key × Vl) → Mem → Prop), (∀ v μ, Q v μ → Q2 v μ) → wDs Φ G ds σ μ Q → wDs Φ2 G ds σ μ Q2
  | .nil, σ, μ, Q, Q2, hQ, h => hQ _ _ h
  | .cons k v ds, σ, μ, Q, Q2, hQ, h => wE_le k σ μ _ _ (fun x μ1 h1 => wE_le v σ μ1 _ _ (fun y μ2 h2 => by
    revert h2
    cases kOf x with
    | none => exact fun h2 => h2
    | some kk => exact fun h2 => wDs_le ds σ μ2 _ _ (fun kvs μ3 h3 => hQ _ _ h3) h2) h1) h
theorem wO_le : ∀ (e : Op) (σ : Sg) (μ : Mem) (Q Q2 : Option Int → Mem → Prop), (∀ v μ, Q v μ → Q2 v μ) → wO Φ G e σ μ Q → wO Φ2 G e σ μ Q2
  | .no, σ, μ, Q, Q2, hQ, h => hQ _ _ h
  | .yes e, σ, μ, Q, Q2, hQ, h => wE_le e σ μ _ _ (fun x μ1 h1 => by
    cases x with
    | int i => exact hQ _ _ h1
    | _ => exact False.elim h1) h
theorem wEs_le : ∀ (es : Es) (σ : Sg) (μ : Mem) (Q Q2 : KL), (∀ v μ, Q v μ → Q2 v μ) → wEs Φ G es σ μ Q → wEs Φ2 G es σ μ Q2
  | .nil, σ, μ, Q, Q2, hQ, h => hQ _ _ h
  | .cons e es, σ, μ, Q, Q2, hQ, h => wE_le e σ μ _ _ (fun x μ1 h1 => wEs_le es σ μ1 _ _ (fun xs μ2 h2 => hQ _ _ h2) h1) h
theorem wI_le : ∀ (e : Itb) (σ : Sg) (μ : Mem) (Q Q2 : Wk → Mem → Prop), (∀ v μ, Q v μ → Q2 v μ) → wI Φ G e σ μ Q → wI Φ2 G e σ μ Q2
  | .sgs e, σ, μ, Q, Q2, hQ, h => wE_le e σ μ _ _ (fun x μ1 h1 => by
    cases x with
    | str s => exact hQ _ _ h1
    | _ => exact h1) h
  | .zip3 a b c, σ, μ, Q, Q2, hQ, h => wE_le a σ μ _ _ (fun x μ1 h1 => wE_le b σ μ1 _ _ (fun y μ2 h2 => wE_le c σ μ2 _ _ (fun z μ3 h3 => by
    revert h3
    cases seqOf μ3 x with
    | none => exact fun h3 => h3
    | some vs =>
      cases seqOf μ3 y with
      | none => exact fun h3 => h3
      | some ws =>
        cases seqOf μ3 z with
        | none => exact fun h3 => h3
        | some us => exact fun h3 => ⟨h3.1, hQ _ _ h3.2⟩) h2) h1) h
  | .dks e, σ, μ, Q, Q2, hQ, h => wE_le e σ μ _ _ (fun x μ1 h1 => by
    cases x with
    | ref r =>
      revert h1
      dsimp only
      cases ndAt μ1 r with
      | none =>
        dsimp only
        cases dctAt μ1 r with
        | none => exact fun h1 => h1
        | some vs => exact fun h1 => hQ _ _ h1
      | some vs => exact fun h1 => hQ _ _ h1
    | _ => exact False.elim h1) h
  | .dit e, σ, μ, Q, Q2, hQ, h => wE_le e σ μ _ _ (fun x μ1 h1 => by
    cases x with
    | ref r =>
      revert h1
      dsimp only
      cases ndAt μ1 r with
      | none =>
        dsimp only
        cases dctAt μ1 r with
        | none => exact fun h1 => h1
        | some vs => exact fun h1 => hQ _ _ h1
      | some vs => exact fun h1 => hQ _ _ h1
    | _ => exact False.elim h1) h
  | .sq e, σ, μ, Q, Q2, hQ, h => wE_le e σ μ _ _ (fun x μ1 h1 => by
    revert h1
    cases seqOf μ1 x with
    | none => exact fun h1 => h1
    | some vs => exact fun h1 => hQ _ _ h1) h
  | .rng1 e, σ, μ, Q, Q2, hQ, h => wE_le e σ μ _ _ (fun x μ1 h1 => by
    cases x with
    | int i => exact ⟨h1.1, hQ _ _ h1.2⟩
    | _ => exact False.elim h1) h
  | .rng2 a b, σ, μ, Q, Q2, hQ, h => wE_le a σ μ _ _ (fun x μ1 h1 => wE_le b σ μ1 _ _ (fun y μ2 h2 => by
    cases x with
    | int i =>
      cases y with
      | int j => exact hQ _ _ h2
      | _ => exact False.elim h2
    | _ => exact False.elim h2) h1) h
  | .zip a b, σ, μ, Q, Q2, hQ, h => wE_le a σ μ _ _ (fun x μ1 h1 => wE_le b σ μ1 _ _ (fun y μ2 h2 => by
    revert h2
    cases seqOf μ2 x with
    | none => exact fun h2 => h2
    | some vs =>
      cases seqOf μ2 y with
      | none => exact fun h2 => h2
      | some ws => exact fun h2 => ⟨h2.1, hQ _ _ h2.2⟩) h1) h
  | .enm e, σ, μ, Q, Q2, hQ, h => wE_le e σ μ _ _ (fun x μ1 h1 => by
    revert h1
    show (match seqOf μ1 x with | some vs => _ | .none => False) → (match seqOf μ1 x with | some vs => _ | .none => False)
    cases seqOf μ1 x with
    | none => exact fun h1 => h1
    | some vs => exact fun h1 => hQ _ _ h1) h
  | .rev e, σ, μ, Q, Q2, hQ, h => wE_le e σ μ _ _ (fun x μ1 h1 => by
    revert h1
    cases seqOf μ1 x with
    | none => exact fun h1 => h1
    | some vs => exact fun h1 => hQ _ _ h1) h
end

/-- ends below ends -/
structure EnLe (D D2 : En) : Prop where
  nx : ∀ σ μ, D.nx σ μ → D2.nx σ μ
  rt : ∀ v μ, D.rt v μ → D2.rt v μ
  bk : ∀ σ μ, D.bk σ μ → D2.bk σ μ
  ct : ∀ σ μ, D.ct σ μ → D2.ct σ μ
omit hF in
theorem thD_le {D D2 : En} (h : EnLe D D2) : ∀ lk : Option Nat, EnLe (thD lk D) (thD lk D2)
  | .none => h
  | some p => ⟨fun σ μ q => h.nx _ _ q, h.rt, h.bk, h.ct⟩
omit hF in
theorem whlW_le {c c2 : Sg → Mem → K1 → Prop} {b b2 : WB} (hc : ∀ σ μ (Q Q2 : K1), (∀ v μ, Q v μ → Q2 v μ) → c σ μ Q → c2 σ μ Q2) (hb : ∀ D D2 σ μ, EnLe D D2 → b D σ μ → b2 D2 σ μ) :
    ∀ (n : Nat) (D D2 : En) (σ : Sg) (μ : Mem), EnLe D D2 → whlW c b n D σ μ → whlW c2 b2 n D2 σ μ
  | 0, D, D2, σ, μ, hD, h => h
  | n + 1, D, D2, σ, μ, hD, h => hc _ _ _ _ (tst_mono fun k μ1 h1 => by
    cases k with
    | true => exact hb ⟨whlW c b n D, D.rt, D.nx, whlW c b n D⟩ _ _ _ ⟨fun σ μ h2 => whlW_le hc hb n D D2 σ μ hD h2, hD.rt, hD.nx, fun σ μ h2 => whlW_le hc hb n D D2 σ μ hD h2⟩ h1
    | false => exact hD.nx _ _ h1) h
omit hF in
theorem frW_le {src : List (Nat × List Vl)} {asg : Vl → Sg → (Sg → Prop) → Prop} {b b2 : WB} (ha : ∀ v σ (Q Q2 : Sg → Prop), (∀ σ, Q σ → Q2 σ) → asg v σ Q → asg v σ Q2) (hb : ∀ D D2 σ μ, EnLe D D2 → b D σ μ → b2 D2 σ μ) :
    ∀ (xs : List Vl) (D D2 : En) (σ : Sg) (μ : Mem), EnLe D D2 → frW src asg b xs D σ μ → frW src asg b2 xs D2 σ μ
  | [], D, D2, σ, μ, hD, h => ⟨h.1, hD.nx _ _ h.2⟩
  | x :: xs, D, D2, σ, μ, hD, h => ⟨h.1, ha _ _ _ _ (fun σ1 h1 => hb ⟨frW src asg b xs D, D.rt, D.nx, frW src asg b xs D⟩ _ _ _ ⟨fun σ μ h2 => frW_le ha hb xs D D2 σ μ hD h2, hD.rt, hD.nx, fun σ μ h2 => frW_le ha hb xs D D2 σ μ hD h2⟩ h1) h.2⟩
omit hF in
theorem getW_mono {μ : Mem} {o i : Vl} {Q Q2 : Vl → Prop} (hQ : ∀ v, Q v → Q2 v) (h : getW μ o i Q) : getW μ o i Q2 := by
  unfold getW at h ⊢
  repeat' split at h
  all_goals first
    | exact False.elim h
    | exact hQ _ h
    | (refine dkW_mono (fun kvs k q => ?_) h
       revert q
       cases dget kvs k with
       | none => exact fun q => q
       | some v => exact fun q => hQ _ q)
    | (refine dnW_mono (fun kvs k q => ?_) h
       revert q
       cases dget kvs k with
       | none => exact fun q => q
       | some v => exact fun q => hQ _ q)
omit hF in
theorem augW_mono {op : Operator} {v w : Vl} {Q Q2 : Vl → Prop} (hQ : ∀ v, Q v → Q2 v) (h : augW op v w Q) : augW op v w Q2 := by
  unfold augW at h ⊢
  split at h
  all_goals first
    | exact hQ _ h
    | exact h
omit hF in
theorem stoW_mono {μ : Mem} {o i v : Vl} {Q Q2 : Mem → Prop} (hQ : ∀ μ, Q μ → Q2 μ) (h : stoW μ o i v Q) : stoW μ o i v Q2 := by
  unfold stoW at h ⊢
  repeat' split at h
  all_goals first
    | exact False.elim h
    | exact hQ _ h
    | exact dkW_mono (fun _ _ q => ⟨q.1, q.2.1, hQ _ q.2.2⟩) h
    | exact dsnW_mono hQ h

mutual
theorem wS_le : ∀ (s : IS) (D D2 : En) (σ : Sg) (μ : Mem), EnLe D D2 → wS Φ G s D σ μ → wS Φ2 G s D2 σ μ
  | .asg i e, D, D2, σ, μ, hD, h => wE_le hF e σ μ _ _ (fun v μ1 h1 => hD.nx _ _ h1) h
  | .asgT ts e, D, D2, σ, μ, hD, h => wE_le hF e σ μ _ _ (fun v μ1 h1 => unpW_mono (fun σ1 h2 => hD.nx _ _ h2) h1) h
  | .par is es, D, D2, σ, μ, hD, h => wEs_le hF es σ μ _ _ (fun vs μ1 h1 => ⟨h1.1, hD.nx _ _ h1.2⟩) h
  | .aug i op e, D, D2, σ, μ, hD, h => by
    simp only [wS] at h ⊢
    split at h
    · refine wE_le hF e σ μ _ _ (fun w μ1 h1 => ?_) h
      revert h1
      split
      · exact fun h1 => hD.nx _ _ h1
      · exact fun h1 => hD.nx _ _ h1
      · exact fun h1 => h1
    · exact False.elim h
  | .sto o i e, D, D2, σ, μ, hD, h => wE_le hF e σ μ _ _ (fun v μ1 h1 => wE_le hF o σ μ1 _ _ (fun x μ2 h2 => wE_le hF i σ μ2 _ _ (fun y μ3 h3 => stoW_mono (fun μ4 h4 => hD.nx _ _ h4) h3) h2) h1) h
  | .augS o i op e, D, D2, σ, μ, hD, h => wE_le hF o σ μ _ _ (fun x μ1 h1 => wE_le hF i σ μ1 _ _ (fun y μ2 h2 => getW_mono (fun v h3 => wE_le hF e σ μ2 _ _ (fun w μ3 h4 => augW_mono (fun z h5 => stoW_mono (fun μ4 h6 => hD.nx _ _ h6) h5) h4) h3) h2) h1) h
  | .exp e, D, D2, σ, μ, hD, h => wE_le hF e σ μ _ _ (fun v μ1 h1 => hD.nx _ _ h1) h
  | .ret e, D, D2, σ, μ, hD, h => wE_le hF e σ μ _ _ hD.rt h
  | .retN, D, D2, σ, μ, hD, h => hD.rt _ _ h
  | .ifs c a b, D, D2, σ, μ, hD, h => wE_le hF c σ μ _ _ (tst_mono fun k μ1 h1 => by
    cases k with
    | true => exact wB_le a D D2 σ μ1 hD h1
    | false => exact wB_le b D D2 σ μ1 hD h1) h
  | .whl c b, D, D2, σ, μ, hD, h => by
    obtain ⟨n, h⟩ := h
    exact ⟨n, whlW_le (wE_le hF c) (wB_le b) n D D2 σ μ hD h⟩
  | .fr t it b, D, D2, σ, μ, hD, h => wI_le hF it σ μ _ _ (fun k μ1 h1 => frW_le (asgW_mono t) (wB_le b) k.items _ _ σ μ1 (thD_le hD k.lk) h1) h
  | .pass, D, D2, σ, μ, hD, h => hD.nx _ _ h
  | .brk, D, D2, σ, μ, hD, h => hD.bk _ _ h
  | .cnt, D, D2, σ, μ, hD, h => hD.ct _ _ h
  | .sfld c o f e, D, D2, σ, μ, hD, h => wE_le hF e σ μ _ _ (fun v μ1 h1 => wE_le hF o σ μ1 _ _ (fun x μ2 h2 => by
    cases x with
    | ref r =>
      revert h2
      dsimp only
      cases insAt μ2 r with
      | none => exact fun h2 => h2
      | some p => exact fun h2 => ⟨h2.1, hD.nx _ _ h2.2⟩
    | _ => exact False.elim h2) h1) h
  | .never, D, D2, σ, μ, hD, h => h
  | .tryN b, D, D2, σ, μ, hD, h => wB_le b D D2 σ μ hD h
theorem wB_le : ∀ (s : IB) (D D2 : En) (σ : Sg) (μ : Mem), EnLe D D2 → wB Φ G s D σ μ → wB Φ2 G s D2 σ μ
  | .nil, D, D2, σ, μ, hD, h => hD.nx _ _ h
  | .cons s b, D, D2, σ, μ, hD, h => wS_le s ⟨wB Φ G b D, D.rt, D.bk, D.ct⟩ _ σ μ ⟨fun σ1 μ1 h1 => wB_le b D D2 σ1 μ1 hD h1, hD.rt, hD.bk, hD.ct⟩ h
end
end

theorem phi_le {F : List Fd} {G : List (Str × Vl)} : ∀ (j k : Nat), j ≤ k → FLe (phi F G j) (phi F G k)
  | 0, _, _ => fun f vs μ Q Q2 hQ h => False.elim h
  | j + 1, k, hk => by
    obtain ⟨k, rfl⟩ : ∃ k', k = k' + 1 := ⟨k - 1, by omega⟩
    intro f vs μ Q Q2 hQ h
    simp only [phi] at h ⊢
    split at h
    · exact ⟨h.1, wB_le (phi_le j k (by omega)) _ ⟨fun _ μ1 => Q .none μ1, Q, fun _ _ => False, fun _ _ => False⟩ _ _ _ ⟨fun _ _ h1 => hQ _ _ h1, hQ, fun _ _ h1 => h1, fun _ _ h1 => h1⟩ h.2⟩
    · exact False.elim h
end PV

/-! values of the pure part and of the hand layer -/
namespace PV
open PySem PySem.Spec PyProof.Rows L2

section
variable (K : PySem.W.Frag) (ρ : List Addr) (H : Hp)
mutual
inductive Rep : Vl → V → Prop
  | none : Rep .none .non
  | bool (b : Bool) : Rep (.bool b) (.bl b)
  | int (i : Int) : Rep (.int i) (.int i)
  | str (s : Str) : Rep (.str s) (.str s)
  | tup {vs : List Vl} {a : Addr} {xs : List V} (h : SqT K H a xs) (r : Reps vs xs) : Rep (.tup vs) (.ref a)
  | ref {i : Nat} {a : Addr} (h : ρ[i]? = some a) : Rep (.ref i) (.ref a)
inductive Reps : List Vl → List V → Prop
  | nil : Reps [] []
  | cons {v : Vl} {vs : List Vl} {x : V} {xs : List V} (h : Rep v x) (r : Reps vs xs) : Reps (v :: vs) (x :: xs)
end
end

/-- a heap may be read in another one -/
structure Grow (K : PySem.W.Frag) (ρ : List Addr) (H : Hp) (ρ2 : List Addr) (H2 : Hp) : Prop where
  pre : ∃ t, ρ2 = ρ ++ t
  tups : ∀ a xs, SqT K H a xs → SqT K H2 a xs
  frz : ∀ a o u, H a = some (.frz o u) → H2 a = some (.frz o u)

section
variable {K : PySem.W.Frag} {ρ ρ2 ρ3 : List Addr} {H H2 H3 : Hp}
theorem Grow.refl : Grow K ρ H ρ H := ⟨⟨[], by simp⟩, fun _ _ h => h, fun _ _ _ h => h⟩
theorem Grow.trans (a : Grow K ρ H ρ2 H2) (b : Grow K ρ2 H2 ρ3 H3) : Grow K ρ H ρ3 H3 := by
  obtain ⟨t, e⟩ := a.pre
  obtain ⟨u, e2⟩ := b.pre
  exact ⟨⟨t ++ u, by rw [e2, e, List.append_assoc]⟩, fun x xs h => b.tups x xs (a.tups x xs h), fun x o u h => b.frz x o u (a.frz x o u h)⟩
theorem Grow.at (g : Grow K ρ H ρ2 H2) {i : Nat} {a : Addr} (h : ρ[i]? = some a) : ρ2[i]? = some a := by
  obtain ⟨t, e⟩ := g.pre
  rw [e, List.getElem?_append_left (List.getElem?_eq_some_iff.mp h).1]
  exact h
mutual
theorem Rep.grow (g : Grow K ρ H ρ2 H2) : ∀ {v : Vl} {x : V}, Rep K ρ H v x → Rep K ρ2 H2 v x
  | _, _, .none => .none
  | _, _, .bool b => .bool b
  | _, _, .int i => .int i
  | _, _, .str s => .str s
  | _, _, .tup h r => .tup (g.tups _ _ h) (Reps.grow g r)
  | _, _, .ref h => .ref (g.at h)
theorem Reps.grow (g : Grow K ρ H ρ2 H2) : ∀ {vs : List Vl} {xs : List V}, Reps K ρ H vs xs → Reps K ρ2 H2 vs xs
  | _, _, .nil => .nil
  | _, _, .cons h r => .cons (Rep.grow g h) (Reps.grow g r)
end
mutual
theorem Rep.tups (g : ∀ a xs, SqT K H a xs → SqT K H2 a xs) : ∀ {v : Vl} {x : V}, Rep K ρ H v x → Rep K ρ H2 v x
  | _, _, .none => .none
  | _, _, .bool b => .bool b
  | _, _, .int i => .int i
  | _, _, .str s => .str s
  | _, _, .tup h r => .tup (g _ _ h) (Reps.tups g r)
  | _, _, .ref h => .ref h
theorem Reps.tups (g : ∀ a xs, SqT K H a xs → SqT K H2 a xs) : ∀ {vs : List Vl} {xs : List V}, Reps K ρ H vs xs → Reps K ρ H2 vs xs
  | _, _, .nil => .nil
  | _, _, .cons h r => .cons (Rep.tups g h) (Reps.tups g r)
end
theorem Reps.length : ∀ {vs : List Vl} {xs : List V}, Reps K ρ H vs xs → vs.length = xs.length
  | _, _, .nil => rfl
  | _, _, .cons _ r => by simp [Reps.length r]
theorem Reps.get : ∀ {vs : List Vl} {xs : List V} {i : Nat} {v : Vl}, Reps K ρ H vs xs → vs[i]? = some v → ∃ x, xs[i]? = some x ∧ Rep K ρ H v x
  | _, _, _, _, .nil, e => by simp at e
  | _, _, 0, _, .cons h _, e => by simp at e; subst e; exact ⟨_, rfl, h⟩
  | _, _, i + 1, v, .cons _ r, e => by
    obtain ⟨x, h1, h2⟩ := Reps.get (i := i) (v := v) r (by simpa using e)
    exact ⟨x, by simpa using h1, h2⟩
theorem Reps.getV : ∀ {vs : List Vl} {xs : List V} {i : Nat} {x : V}, Reps K ρ H vs xs → xs[i]? = some x → ∃ v, vs[i]? = some v ∧ Rep K ρ H v x
  | _, _, _, _, .nil, e => by simp at e
  | _, _, 0, _, .cons h _, e => by simp at e; subst e; exact ⟨_, rfl, h⟩
  | _, _, i + 1, v, .cons _ r, e => by
    obtain ⟨x, h1, h2⟩ := Reps.getV (i := i) (x := v) r (by simpa using e)
    exact ⟨x, by simpa using h1, h2⟩
theorem Reps.append : ∀ {vs ws : List Vl} {xs ys : List V}, Reps K ρ H vs xs → Reps K ρ H ws ys → Reps K ρ H (vs ++ ws) (xs ++ ys)
  | _, _, _, _, .nil, s => s
  | _, _, _, _, .cons h r, s => .cons h (Reps.append r s)
theorem Reps.take : ∀ {vs : List Vl} {xs : List V} (n : Nat), Reps K ρ H vs xs → Reps K ρ H (vs.take n) (xs.take n)
  | _, _, 0, _ => .nil
  | _, _, _ + 1, .nil => .nil
  | _, _, n + 1, .cons h r => .cons h (Reps.take n r)
theorem Reps.drop : ∀ {vs : List Vl} {xs : List V} (n : Nat), Reps K ρ H vs xs → Reps K ρ H (vs.drop n) (xs.drop n)
  | _, _, 0, r => r
  | _, _, _ + 1, .nil => .nil
  | _, _, n + 1, .cons h r => Reps.drop n r
theorem Reps.set {v : Vl} {x : V} (q : Rep K ρ H v x) : ∀ {vs : List Vl} {xs : List V} (i : Nat), Reps K ρ H vs xs → Reps K ρ H (vs.set i v) (xs.set i x)
  | _, _, _, .nil => .nil
  | _, _, 0, .cons _ r => .cons q r
  | _, _, i + 1, .cons h r => .cons h (Reps.set q i r)
theorem Reps.eraseIdx : ∀ {vs : List Vl} {xs : List V} (i : Nat), Reps K ρ H vs xs → Reps K ρ H (vs.eraseIdx i) (xs.eraseIdx i)
  | _, _, _, .nil => .nil
  | _, _, 0, .cons _ r => r
  | _, _, i + 1, .cons h r => .cons h (Reps.eraseIdx i r)
theorem Reps.dropLast {vs : List Vl} {xs : List V} (r : Reps K ρ H vs xs) : Reps K ρ H vs.dropLast xs.dropLast := by
  rw [List.dropLast_eq_take, List.dropLast_eq_take, r.length]
  exact r.take _
theorem Reps.reverse {vs : List Vl} {xs : List V} (h : Reps K ρ H vs xs) : Reps K ρ H vs.reverse xs.reverse := by
  induction vs generalizing xs with
  | nil => cases h; exact .nil
  | cons v vs ih =>
    cases h with
    | cons h r => rw [List.reverse_cons, List.reverse_cons]; exact Reps.append (ih r) (.cons h .nil)
theorem Reps.one {v : Vl} {xs : List V} (r : Reps K ρ H [v] xs) : ∃ x, xs = [x] ∧ Rep K ρ H v x := by
  cases r with
  | cons h r => cases r; exact ⟨_, rfl, h⟩
theorem Reps.two {v w : Vl} {xs : List V} (r : Reps K ρ H [v, w] xs) : ∃ x y, xs = [x, y] ∧ Rep K ρ H v x ∧ Rep K ρ H w y := by
  cases r with
  | cons h r =>
    obtain ⟨y, rfl, h2⟩ := r.one
    exact ⟨_, _, rfl, h, h2⟩
theorem Reps.three {v w u : Vl} {xs : List V} (r : Reps K ρ H [v, w, u] xs) : ∃ x y z, xs = [x, y, z] ∧ Rep K ρ H v x ∧ Rep K ρ H w y ∧ Rep K ρ H u z := by
  cases r with
  | cons h r =>
    obtain ⟨y, z, rfl, h2, h3⟩ := r.two
    exact ⟨_, _, _, rfl, h, h2, h3⟩
theorem Rep.int_of {i : Int} {x : V} (r : Rep K ρ H (.int i) x) : x = .int i := by cases r; rfl
theorem Rep.str_of {i : Str} {x : V} (r : Rep K ρ H (.str i) x) : x = .str i := by cases r; rfl
theorem Rep.bool_of {i : Bool} {x : V} (r : Rep K ρ H (.bool i) x) : x = .bl i := by cases r; rfl
theorem Rep.none_of {x : V} (r : Rep K ρ H .none x) : x = .non := by cases r; rfl
theorem Rep.tup_of {vs : List Vl} {x : V} (r : Rep K ρ H (.tup vs) x) : ∃ a xs, x = .ref a ∧ SqT K H a xs ∧ Reps K ρ H vs xs := by
  cases r with
  | tup h r => exact ⟨_, _, rfl, h, r⟩
theorem Rep.ref_of {i : Nat} {x : V} (r : Rep K ρ H (.ref i) x) : ∃ a, x = .ref a ∧ ρ[i]? = some a := by
  cases r with
  | ref h => exact ⟨_, rfl, h⟩
theorem Reps.rep {vs : List Vl} {xs : List V} (r : Reps K ρ H vs xs) : ∀ k : Nat, Reps K ρ H (List.replicate k vs).flatten (List.replicate k xs).flatten
  | 0 => .nil
  | k + 1 => by
    rw [List.replicate_succ, List.replicate_succ, List.flatten_cons, List.flatten_cons]
    exact r.append (Reps.rep r k)
theorem Reps.ints : ∀ {vs : List Vl} {xs : List V} {ns : List Int}, Reps K ρ H vs xs → optAll intOf vs = some ns → xs = ns.map V.int
  | _, _, ns, .nil, e => by
    simp only [optAll, Option.some.injEq] at e
    subst e; rfl
  | v :: vs, _, ns, .cons h r, e => by
    simp only [optAll] at e
    cases v with
    | int i =>
      cases h
      cases q : optAll intOf vs with
      | none => simp [intOf, q] at e
      | some ms =>
        simp [intOf, q] at e
        subst e
        rw [List.map_cons, Reps.ints r q]
    | _ => simp [intOf] at e
theorem Reps.bools : ∀ {vs : List Vl} {xs : List V} {ns : List Bool}, Reps K ρ H vs xs → optAll boolOf vs = some ns → xs = ns.map V.bl
  | _, _, ns, .nil, e => by
    simp only [optAll, Option.some.injEq] at e
    subst e; rfl
  | v :: vs, _, ns, .cons h r, e => by
    simp only [optAll] at e
    cases v with
    | bool i =>
      cases h
      cases q : optAll boolOf vs with
      | none => simp [boolOf, q] at e
      | some ms =>
        simp [boolOf, q] at e
        subst e
        rw [List.map_cons, Reps.bools r q]
    | _ => simp [boolOf] at e
theorem Reps.of_ints : ∀ (ns : List Int), Reps K ρ H (ns.map Vl.int) (ns.map V.int)
  | [] => .nil
  | n :: ns => .cons (.int n) (Reps.of_ints ns)
end

/-! ### the store -/
/-- a list that is known to the object, or of the written part -/
def FrzL (K : PySem.W.Frag) (H : Hp) (a : Addr) (xs : List V) : Prop := (∃ o, H a = some (.frz o (.lst xs))) ∨ SqL K (fun _ => none) a xs
theorem FrzL.sq {K : PySem.W.Frag} {H : Hp} {a : Addr} {xs : List V} (h : FrzL K H a xs) : SqL K H a xs := by
  rcases h with ⟨o, h⟩ | (h | ⟨o, h⟩) | h
  · exact .inl (.inr ⟨o, h⟩)
  · cases h
  · cases h
  · exact .inr h
/-- a dict whose keys are nested tuples, by its one object: keys, the keys' tuples, values -/
def NdAt (a : Addr) (xs : List (NestedKey × Addr × V)) (h : Heap) : Prop :=
  xs.length ≤ sizeLine ∧ (a == sysModules) = false ∧ ∃ vs : List (NestedKey × Addr × Value), Paired (fun (p : NestedKey × Addr × V) (q : NestedKey × Addr × Value) => p.1 = q.1 ∧ p.2.1 = q.2.1 ∧ RelV p.2.2 q.2.2) xs vs ∧
    ∃ o es ep, h.get? a = some o ∧ o.ExactDict ∧ o.data = .dict es ep ∧ (∀ (P : Program) (w : World), es.toList = vs.map (entryOfKey (nestedKind P w))) ∧ (vs.map (·.1)).Nodup
abbrev NRel (K : PySem.W.Frag) (ρ : List Addr) (H : Hp) : List (NestedKey × Vl) → List (NestedKey × Addr × V) → Prop :=
  Paired fun (p : NestedKey × Vl) (q : NestedKey × Addr × V) => p.1 = q.1 ∧ (Rep K ρ H (keyVl p.1) (.ref q.2.1) ∧ nkOf (keyVl p.1) = some p.1) ∧ Rep K ρ H p.2 q.2.2
/-- a def's table of code objects: each is known, of the lambda's name -/
def TabF (H : Hp) (P : Addr) (q : Str) : Prop := ∃ ps : Array Value, H P = some (.tbl ps) ∧ TriplesOk ps.toList ∧ ∀ pos cv, codeAmong pos ps.toList = some cv → ∃ c o, cv = .ref c ∧ H c = some (.frz o (LamX.CodeO c q))
def lamQ (f : Str) : Str := f ++ ".<locals>." ++ "<lambda>"
def ObOk (K : PySem.W.Frag) (ρ : List Addr) (H : Hp) : Ob → Addr → Prop
  | .lst vs, a => ∃ xs, H a = some (.lst xs) ∧ Reps K ρ H vs xs
  | .frz vs, a => ∃ xs, FrzL K H a xs ∧ Reps K ρ H vs xs
  | .dct kvs, a => ∃ ks, H a = some (.dK ks) ∧ Paired (fun (p : Key × Vl) (q : Key × V) => p.1 = q.1 ∧ Rep K ρ H p.2 q.2) kvs ks
  | .ndc kvs, a => ∃ xs, H a = some (.ext (NdAt a xs)) ∧ NRel K ρ H kvs xs
  | .nfz kvs, a => ∃ o xs, H a = some (.frz o (.ext (NdAt a xs))) ∧ NRel K ρ H kvs xs
  | .dfz kvs, a => ∃ o ks, H a = some (.frz o (.dK ks)) ∧ Paired (fun (p : Key × Vl) (q : Key × V) => p.1 = q.1 ∧ Rep K ρ H p.2 q.2) kvs ks
  | .ins c fs, a => ∃ dx ks, H a = some (.ins (He.ga K c) dx ks) ∧ Paired (fun (p : Str × Vl) (q : Str × V) => p.1 = q.1 ∧ Rep K ρ H p.2 q.2) fs ks
  | .tab f, a => a = (He.cT K (f, none)).2 ∧ TabF H a (lamQ f)
/-- what has its object to itself -/
def isOwn : Ob → Bool
  | .frz _ => false
  | _ => true
def isMut : Ob → Bool
  | .lst _ => true
  | .frz _ => false
  | .dct _ => true
  | .ndc _ => true
  | .nfz _ => false
  | .dfz _ => false
  | .ins _ _ => true
  | .tab _ => false
/-- what stays while others are written -/
def isMv : Ob → Bool
  | .tab _ => true
  | o => isMut o
def MutT (u : HO) : Prop := Mut (some u) ∨ ∃ ps, u = .tbl ps
theorem own_mv {o : Ob} (h : isMv o = true) : isOwn o = true := by cases o <;> first | rfl | cases h
theorem own_mut {o : Ob} (h : isMut o = true) : isOwn o = true := by cases o <;> first | rfl | cases h
structure MemOk (K : PySem.W.Frag) (ρ : List Addr) (H : Hp) (μ : Mem) : Prop where
  len : ρ.length = μ.length
  at' : ∀ (i : Nat) (o : Ob), μ[i]? = some o → ∃ a, ρ[i]? = some a ∧ ObOk K ρ H o a
  nd : ∀ (i j : Nat) (a : Addr) (o u : Ob), ρ[i]? = some a → ρ[j]? = some a → μ[i]? = some o → μ[j]? = some u → isOwn o = true → isOwn u = true → i = j

section
variable {K : PySem.W.Frag} {ρ ρ2 : List Addr} {H H2 : Hp} {μ : Mem} {a p : Addr} {o : HO}
/-- stores at what may be written, and new things, leave the tuples -/
theorem sqT_upd (h : H p = none ∨ Mut (H p)) {xs : List V} (q : SqT K H a xs) : SqT K (upd H p o) a xs := by
  rcases q with (q | ⟨ob, q⟩) | q
  · refine .inl (.inl ?_)
    rw [upd_ne]
    · exact q
    · rintro rfl
      rcases h with h | h
      · rw [h] at q; cases q
      · rw [q] at h; exact h
  · refine .inl (.inr ⟨ob, ?_⟩)
    rw [upd_ne]
    · exact q
    · rintro rfl
      rcases h with h | h
      · rw [h] at q; cases q
      · rw [q] at h; exact h
  · exact .inr q
theorem frzL_upd (h : H p = none ∨ Mut (H p)) {xs : List V} (q : FrzL K H a xs) : FrzL K (upd H p o) a xs := by
  rcases q with ⟨ob, q⟩ | q
  · refine .inl ⟨ob, ?_⟩
    rw [upd_ne]
    · exact q
    · rintro rfl
      rcases h with h | h
      · rw [h] at q; cases q
      · rw [q] at h; exact h
  · exact .inr q
theorem frz_upd (h : H p = none ∨ Mut (H p)) {b : Addr} {ob : Obj} {u : HO} (q : H b = some (.frz ob u)) : upd H p o b = some (.frz ob u) := by
  rw [upd_ne]
  · exact q
  · rintro rfl
    rcases h with h | h
    · rw [h] at q; cases q
    · rw [q] at h; exact h
theorem grow_upd (h : H p = none ∨ Mut (H p)) : Grow K ρ H ρ (upd H p o) := ⟨⟨[], by simp⟩, fun _ _ q => sqT_upd h q, fun _ _ _ q => frz_upd h q⟩
theorem grow_new (h : H p = none) : Grow K ρ H (ρ ++ [p]) (upd H p o) := ⟨⟨[p], rfl⟩, fun _ _ q => sqT_upd (.inl h) q, fun _ _ _ q => frz_upd (.inl h) q⟩
theorem Paired.mapQ {α β : Type} {F G : α → β → Prop} (f : ∀ a b, F a b → G a b) : ∀ {l₁ : List α} {l₂ : List β}, Paired F l₁ l₂ → Paired G l₁ l₂
  | _, _, .nil => .nil
  | _, _, .cons r t => .cons (f _ _ r) (Paired.mapQ f t)
theorem ObOk.grow (g : Grow K ρ H ρ2 H2) (hf : ∀ xs, FrzL K H a xs → FrzL K H2 a xs) : ∀ {o : Ob}, (isMv o = true → ∀ u, H a = some u → MutT u → H2 a = some u) → ObOk K ρ H o a → ObOk K ρ2 H2 o a
  | .lst vs, hm, ⟨xs, h, r⟩ => ⟨xs, hm rfl _ h (.inl trivial), r.grow g⟩
  | .frz vs, hm, ⟨xs, h, r⟩ => ⟨xs, hf _ h, r.grow g⟩
  | .dct kvs, hm, ⟨ks, h, r⟩ => ⟨ks, hm rfl _ h (.inl trivial), Paired.mapQ (fun p q z => ⟨z.1, z.2.grow g⟩) r⟩
  | .ndc kvs, hm, ⟨ks, h, r⟩ => ⟨ks, hm rfl _ h (.inl trivial), Paired.mapQ (fun p q z => ⟨z.1, ⟨z.2.1.1.grow g, z.2.1.2⟩, z.2.2.grow g⟩) r⟩
  | .nfz kvs, hm, ⟨o, ks, h, r⟩ => ⟨o, ks, g.frz _ _ _ h, Paired.mapQ (fun p q z => ⟨z.1, ⟨z.2.1.1.grow g, z.2.1.2⟩, z.2.2.grow g⟩) r⟩
  | .dfz kvs, hm, ⟨o, ks, h, r⟩ => ⟨o, ks, g.frz _ _ _ h, Paired.mapQ (fun p q z => ⟨z.1, z.2.grow g⟩) r⟩
  | .ins c fs, hm, ⟨dx, ks, h, r⟩ => ⟨dx, ks, hm rfl _ h (.inl trivial), Paired.mapQ (fun p q z => ⟨z.1, z.2.grow g⟩) r⟩
  | .tab f, hm, ⟨e, ps, h, t, c⟩ => ⟨e, ps, hm rfl _ h (.inr ⟨ps, rfl⟩), t, fun pos cv z => let ⟨c', o, e1, e2⟩ := c pos cv z; ⟨c', o, e1, g.frz _ _ _ e2⟩⟩
theorem ObOk.mutH {o : Ob} (h : ObOk K ρ H o a) (m : isMut o = true) : Mut (H a) := by
  cases o with
  | lst vs => obtain ⟨xs, e, _⟩ := h; rw [e]; trivial
  | frz vs => cases m
  | dct kvs => obtain ⟨xs, e, _⟩ := h; rw [e]; trivial
  | ndc kvs => obtain ⟨xs, e, _⟩ := h; rw [e]; trivial
  | nfz kvs => cases m
  | dfz kvs => cases m
  | ins c fs => obtain ⟨_, _, e, _⟩ := h; rw [e]; trivial
  | tab f => cases m
theorem ObOk.here {o : Ob} (h : ObOk K ρ H o a) (m : isOwn o = true) : ∃ u, H a = some u := by
  cases o with
  | lst vs => obtain ⟨xs, e, _⟩ := h; exact ⟨_, e⟩
  | frz vs => cases m
  | dct kvs => obtain ⟨xs, e, _⟩ := h; exact ⟨_, e⟩
  | ndc kvs => obtain ⟨xs, e, _⟩ := h; exact ⟨_, e⟩
  | nfz kvs => obtain ⟨_, xs, e, _⟩ := h; exact ⟨_, e⟩
  | dfz kvs => obtain ⟨_, xs, e, _⟩ := h; exact ⟨_, e⟩
  | ins c fs => obtain ⟨_, xs, e, _⟩ := h; exact ⟨_, e⟩
  | tab f => obtain ⟨_, ps, e, _⟩ := h; exact ⟨_, e⟩
/-- a new thing in the store -/
theorem MemOk.new {ob : Ob} (m : MemOk K ρ H μ) (hp : H p = none) (new : ObOk K (ρ ++ [p]) (upd H p o) ob p) : MemOk K (ρ ++ [p]) (upd H p o) (μ ++ [ob]) := by
  have hl := m.len
  have ne : ∀ i a u, ρ[i]? = some a → μ[i]? = some u → isOwn u = true → a ≠ p := fun i a u e1 e2 e3 z => by
    obtain ⟨b, e4, ok⟩ := m.at' i u e2
    rw [e1] at e4; cases e4
    obtain ⟨w, this⟩ := ok.here e3
    rw [z, hp] at this
    cases this
  refine ⟨by simp [hl], fun i u e => ?_, fun i j b u v e1 e2 e3 e4 m1 m2 => ?_⟩
  · by_cases hi : i < μ.length
    · rw [List.getElem?_append_left hi] at e
      obtain ⟨b, e1, ok⟩ := m.at' i u e
      refine ⟨b, by rw [List.getElem?_append_left (by omega)]; exact e1, ok.grow (grow_new hp) (fun xs q => frzL_upd (.inl hp) q) fun _ w q mu => ?_⟩
      rw [upd_ne (ne_of_none q hp)]
      exact q
    · have hi2 : i = μ.length := by
        have := (List.getElem?_eq_some_iff.mp e).1
        simp at this
        omega
      subst hi2
      rw [List.getElem?_concat_length] at e
      cases e
      exact ⟨p, by rw [← hl, List.getElem?_concat_length], new⟩
  · by_cases hi : i < μ.length
    · by_cases hj : j < μ.length
      · rw [List.getElem?_append_left (by omega)] at e1 e2
        rw [List.getElem?_append_left hi] at e3
        rw [List.getElem?_append_left hj] at e4
        exact m.nd i j b u v e1 e2 e3 e4 m1 m2
      · have hj2 : j = μ.length := by
          have := (List.getElem?_eq_some_iff.mp e4).1
          simp at this
          omega
        subst hj2
        rw [← hl, List.getElem?_concat_length] at e2
        cases e2
        rw [List.getElem?_append_left (by omega)] at e1
        rw [List.getElem?_append_left hi] at e3
        exact absurd rfl (ne i p u e1 e3 m1)
    · have hi2 : i = μ.length := by
        have := (List.getElem?_eq_some_iff.mp e3).1
        simp at this
        omega
      by_cases hj : j < μ.length
      · subst hi2
        rw [← hl, List.getElem?_concat_length] at e1
        cases e1
        rw [List.getElem?_append_left (by omega)] at e2
        rw [List.getElem?_append_left hj] at e4
        exact absurd rfl (ne j p v e2 e4 m2)
      · have hj2 : j = μ.length := by
          have := (List.getElem?_eq_some_iff.mp e4).1
          simp at this
          omega
        omega
/-- a thing of the store is written -/
theorem MemOk.write {r : Nat} {ob ob2 : Ob} (m : MemOk K ρ H μ) (hr : μ[r]? = some ob) (ha : ρ[r]? = some a) (hm : isMut ob = true) (new : ObOk K ρ (upd H a o) ob2 a) (hm2 : isMut ob2 = true) : MemOk K ρ (upd H a o) (μ.set r ob2) := by
  have mu : Mut (H a) := by
    obtain ⟨b, e, ok⟩ := m.at' r ob hr
    rw [ha] at e; cases e
    exact ok.mutH hm
  have old : ∀ i u, (μ.set r ob2)[i]? = some u → i ≠ r → μ[i]? = some u := fun i u e hi => by
    rw [List.getElem?_set_ne (Ne.symm hi)] at e; exact e
  have hlt : r < μ.length := (List.getElem?_eq_some_iff.mp hr).1
  refine ⟨by simpa using m.len, fun i u e => ?_, fun i j b u v e1 e2 e3 e4 m1 m2 => ?_⟩
  · by_cases hi : i = r
    · subst hi
      rw [List.getElem?_set_self hlt] at e
      cases e
      exact ⟨a, ha, new⟩
    · have e' := old i u e hi
      obtain ⟨b, e1, ok⟩ := m.at' i u e'
      refine ⟨b, e1, ok.grow (grow_upd (.inr mu)) (fun xs q => frzL_upd (.inr mu) q) fun mo w q mu2 => ?_⟩
      rw [upd_ne]
      · exact q
      · rintro rfl
        exact hi (m.nd i r b u ob e1 ha e' hr (own_mv mo) (own_mut hm))
  · have f : ∀ k w, (μ.set r ob2)[k]? = some w → isOwn w = true → ∃ w', μ[k]? = some w' ∧ isOwn w' = true := fun k w e h => by
      by_cases hk : k = r
      · subst hk; exact ⟨ob, hr, own_mut hm⟩
      · exact ⟨w, old k w e hk, h⟩
    obtain ⟨u', e3', m1'⟩ := f i u e3 m1
    obtain ⟨v', e4', m2'⟩ := f j v e4 m2
    exact m.nd i j b u' v' e1 e2 e3' e4' m1' m2'
theorem ObOk.noL {o : Ob} (h : ObOk K ρ H o a) (m : isOwn o = true) : ∀ u xs, H a ≠ some (.frz u (.lst xs)) := by
  intro u xs z
  cases o with
  | lst vs => obtain ⟨xs, e, _⟩ := h; rw [e] at z; cases z
  | frz vs => cases m
  | dct kvs => obtain ⟨xs, e, _⟩ := h; rw [e] at z; cases z
  | ndc kvs => obtain ⟨xs, e, _⟩ := h; rw [e] at z; cases z
  | nfz kvs => obtain ⟨_, xs, e, _⟩ := h; rw [e] at z; cases z
  | dfz kvs => obtain ⟨_, xs, e, _⟩ := h; rw [e] at z; cases z
  | ins c fs => obtain ⟨_, xs, e, _⟩ := h; rw [e] at z; cases z
  | tab f => obtain ⟨_, ps, e, _⟩ := h; rw [e] at z; cases z
theorem nd_noC {a : Addr} {xs : List (NestedKey × Addr × V)} {q : Str} (e : HO.ext (NdAt a xs) = LamX.CodeO a q) : False := by
  have e := HO.ext.inj e
  have g : (Heap.mk (Array.replicate (a + 1) ({ cls := .none, data := .fields #[.none, .str q default] } : Obj)) {}).get? a = some { cls := .none, data := .fields #[.none, .str q default] } := by
    unfold Heap.get?
    simp
  have z := congrFun e (Heap.mk (Array.replicate (a + 1) ({ cls := .none, data := .fields #[.none, .str q default] } : Obj)) {})
  have w : NdAt a xs (Heap.mk (Array.replicate (a + 1) ({ cls := .none, data := .fields #[.none, .str q default] } : Obj)) {}) := z.symm ▸ ⟨_, _, _, g, rfl, rfl⟩
  obtain ⟨_, _, vs, _, o, es, ep, e1, _, e2, _⟩ := w
  rw [g] at e1
  cases e1
  cases e2
theorem ObOk.noC {o : Ob} (h : ObOk K ρ H o a) (m : isOwn o = true) : ∀ u q, H a ≠ some (.frz u (LamX.CodeO a q)) := by
  intro u q z
  cases o with
  | lst vs => obtain ⟨xs, e, _⟩ := h; rw [e] at z; cases z
  | frz vs => cases m
  | dct kvs => obtain ⟨xs, e, _⟩ := h; rw [e] at z; cases z
  | ndc kvs => obtain ⟨xs, e, _⟩ := h; rw [e] at z; cases z
  | nfz kvs => obtain ⟨_, xs, e, _⟩ := h; rw [e] at z; exact nd_noC (HO.frz.inj (Option.some.inj z)).2
  | dfz kvs => obtain ⟨_, xs, e, _⟩ := h; rw [e] at z; exact HO.noConfusion (HO.frz.inj (Option.some.inj z)).2
  | ins c fs => obtain ⟨_, xs, e, _⟩ := h; rw [e] at z; cases z
  | tab f => obtain ⟨_, ps, e, _⟩ := h; rw [e] at z; cases z
/-- a thing of the store is turned into another one: its object alone is told otherwise -/
theorem MemOk.turn {r : Nat} {ob ob2 : Ob} (m : MemOk K ρ H μ) (hr : μ[r]? = some ob) (ow : isOwn ob = true) (ow2 : isOwn ob2 = true) (ha : ρ[r]? = some a) (new : ObOk K ρ H2 ob2 a)
    (gT : ∀ b xs, SqT K H b xs → SqT K H2 b xs) (k : ∀ b, b ≠ a → H2 b = H b) : MemOk K ρ H2 (μ.set r ob2) := by
  have hlt : r < μ.length := (List.getElem?_eq_some_iff.mp hr).1
  have okr : ObOk K ρ H ob a := by
    obtain ⟨b, e, ok⟩ := m.at' r ob hr
    rw [ha] at e; cases e
    exact ok
  have old : ∀ i u, (μ.set r ob2)[i]? = some u → i ≠ r → μ[i]? = some u := fun i u e hi => by
    rw [List.getElem?_set_ne (Ne.symm hi)] at e; exact e
  have f : ∀ i w, (μ.set r ob2)[i]? = some w → isOwn w = true → ∃ w', μ[i]? = some w' ∧ isOwn w' = true := fun i w e h => by
    by_cases hk : i = r
    · subst hk; exact ⟨ob, hr, ow⟩
    · exact ⟨w, old i w e hk, h⟩
  refine ⟨by simpa using m.len, fun i u e => ?_, fun i j b u v e1 e2 e3 e4 m1 m2 => ?_⟩
  · by_cases hi : i = r
    · subst hi
      rw [List.getElem?_set_self hlt] at e
      cases e
      exact ⟨a, ha, new⟩
    · have e' := old i u e hi
      obtain ⟨b, e1, ok⟩ := m.at' i u e'
      refine ⟨b, e1, ?_⟩
      have ne : isOwn u = true → b ≠ a := fun mu z => by
        subst z
        exact hi (m.nd i r b u ob e1 ha e' hr mu ow)
      cases u with
      | lst vs => obtain ⟨xs, e, q⟩ := ok; exact ⟨xs, by rw [k b (ne rfl)]; exact e, q.tups gT⟩
      | frz vs =>
        obtain ⟨xs, e, q⟩ := ok
        refine ⟨xs, ?_, q.tups gT⟩
        rcases e with ⟨o, e⟩ | e
        · by_cases z : b = a
          · rw [z] at e; exact absurd e (okr.noL ow o xs)
          · exact .inl ⟨o, by rw [k b z]; exact e⟩
        · exact .inr e
      | dct kvs => obtain ⟨xs, e, q⟩ := ok; exact ⟨xs, by rw [k b (ne rfl)]; exact e, Paired.mapQ (fun p q z => ⟨z.1, z.2.tups gT⟩) q⟩
      | ndc kvs => obtain ⟨xs, e, q⟩ := ok; exact ⟨xs, by rw [k b (ne rfl)]; exact e, Paired.mapQ (fun p q z => ⟨z.1, ⟨z.2.1.1.tups gT, z.2.1.2⟩, z.2.2.tups gT⟩) q⟩
      | nfz kvs => obtain ⟨o, xs, e, q⟩ := ok; exact ⟨o, xs, by rw [k b (ne rfl)]; exact e, Paired.mapQ (fun p q z => ⟨z.1, ⟨z.2.1.1.tups gT, z.2.1.2⟩, z.2.2.tups gT⟩) q⟩
      | dfz kvs => obtain ⟨o, xs, e, q⟩ := ok; exact ⟨o, xs, by rw [k b (ne rfl)]; exact e, Paired.mapQ (fun p q z => ⟨z.1, z.2.tups gT⟩) q⟩
      | ins c fs => obtain ⟨dx, xs, e, q⟩ := ok; exact ⟨dx, xs, by rw [k b (ne rfl)]; exact e, Paired.mapQ (fun p q z => ⟨z.1, z.2.tups gT⟩) q⟩
      | tab f =>
        obtain ⟨e, ps, h1, h2, h3⟩ := ok
        refine ⟨e, ps, by rw [k b (ne rfl)]; exact h1, h2, fun pos cv z => ?_⟩
        obtain ⟨c', o, e1, e2⟩ := h3 pos cv z
        refine ⟨c', o, e1, ?_⟩
        rw [k c' fun y => by rw [y] at e2; exact okr.noC ow _ _ e2]
        exact e2
  · obtain ⟨u', e3', m1'⟩ := f i u e3 m1
    obtain ⟨v', e4', m2'⟩ := f j v e4 m2
    exact m.nd i j b u' v' e1 e2 e3' e4' m1' m2'
end
end PV

/-! own rule: int(text), more than 640 figures -/
namespace PV
open PySem PySem.Spec PyProof.Rows L2 PySem.NumText PySem.Calls
/-- the limit of figures stands as it was -/
def NoDig (h : Heap) : Prop := ∃ mc, h.Ns cStatics mc ∧ mc "sys.int_max_str_digits" = none
theorem NoDig.keeps {h h' : Heap} (x : NoDig h) (hk : ∀ b o, h.get? b = some o → h'.get? b = some o) : NoDig h' := let ⟨mc, a, b⟩ := x; ⟨mc, a.keeps hk, b⟩
theorem wp_dig {M : Model} {A : Around} {E : Value → Shared → Prop} {s : Shared} {Q : Nat → Shared → Prop} (hd : NoDig s.heap) (h : Q 4300 s) : wpAny M A Builtin.intMaxStrDigits Q E s := by
  obtain ⟨mc, hn, hk⟩ := hd
  unfold Builtin.intMaxStrDigits
  refine wpAny_bind (wpAny_nsGet hn ?_)
  rw [hk]
  exact wpAny_pure h
theorem wp_text43 {M : Model} {A : Around} {E : Value → Shared → Prop} {s : Shared} {Q : Value → Shared → Prop} {v : Value} {text : List Nat} {n : Int} (hd : NoDig s.heap)
    (hs : ¬ (text.takeWhile (· != 0)).length ≤ 640) (hr : (int_private% "readNumeral") 4300 10 (text.takeWhile (· != 0)) = (int_private% "Numeral.value") n)
    (ha : ((text.takeWhile (· != 0)).length == text.length) = true) (h : Q (.int n s.toks) { s with toks := s.toks + 1 }) :
    wpAny M A ((int_private% "intFromText") v text 10) Q E s := by
  obtain ⟨hp, g, d, tk, os⟩ := s
  repeat (any_goals (first
    | assumption
    | (with_reducible refine wpAny_ite_false (decide_eq_false hs) ?_)
    | (with_reducible refine wp_dig hd ?_)
    | (with_reducible refine wpAny_ite_true (decide_eq_true ha) ?_)
    | wp_step))
  all_goals (try rw [hr])
  all_goals (try dsimp only)
  repeat (any_goals (first
    | assumption
    | (with_reducible refine wpAny_ite_true (decide_eq_true ha) ?_)
    | wp_step))
structure Hid (p : Prop) : Prop where
  out : p
set_option maxHeartbeats 4000000 in
theorem meets_text43 {x : PySem.Str} {u : Tok} {n : Int} (hs : ¬ (numSeenOf x).length ≤ 640) (hl : x.length ≤ 4300) (hn : PySem.intText? x = some n) : Meets (Builtin.«int.__new__» ⟨[.type "int", .str x u], []⟩) (fun _ R s => NoDig s.heap ∧ R (.ok (.ret (.int n s.toks))) { s with toks := s.toks + 1 }) :=
  .of_wp fun prog w A R s h0 => by
    obtain ⟨hd, h⟩ := h0
    have f1 := F.conv_sub_int
    have f2 := F.madeHere_int
    have f3 := PySem.W.KIN.str_int
    have f4 := PySem.W.KIN.str_idx
    have f5 := PySem.W.KIN.str_trunc
    have f6 : typeOf (.str x u) = pure (.type "str") := rfl
    have hr : (int_private% "readNumeral") 4300 10 (numSeenOf x) = (int_private% "Numeral.value") n ∧ ((numSeenOf x).length == (numTextOf x).length) = true := by
      rcases read4300 x (by rw [sizeLine_eq]; omega) with ⟨m, h1, h2, h3⟩ | ⟨h1, _⟩
      · rw [hn] at h1
        injection h1 with h1
        subst h1
        exact ⟨h3, h2⟩
      · rw [hn] at h1
        cases h1
    obtain ⟨hp, g, d, tk, os⟩ := s
    have hk := Hid.mk (And.intro hs hr)
    have hdd := Hid.mk hd
    clear hs hr hl hn hd
    repeat (any_goals (first
      | assumption
      | ((with_reducible show wpAny _ _ ((int_private% "intFromText") _ _ _) _ _ _); refine wp_text43 hdd.out hk.out.1 hk.out.2.1 hk.out.2.2 ?_)
      | wp_step))
    all_goals first | exact ⟨_, rfl, h⟩ | skip
set_option maxHeartbeats 4000000 in
theorem gives_text640 {x : PySem.Str} {u : Tok} {n : Int} (hs : (numSeenOf x).length ≤ 640) (hn : PySem.intText? x = some n) : Gives (Builtin.«int.__new__» ⟨[.type "int", .str x u], []⟩) (.int n) :=
  .of_wp fun M A E s Q h => by
    obtain ⟨hp, g, d, tk, os⟩ := s
    have f1 := F.conv_sub_int
    have f2 := F.madeHere_int
    have f3 := PySem.W.KIN.str_int
    have f4 := PySem.W.KIN.str_idx
    have f5 := PySem.W.KIN.str_trunc
    have f6 : typeOf (.str x u) = pure (.type "str") := rfl
    have hr : (int_private% "readNumeral") 0 10 (numSeenOf x) = (int_private% "Numeral.value") n ∧ ((numSeenOf x).length == (numTextOf x).length) = true := by
      rcases read0 x hs with ⟨m, h1, h2, h3⟩ | ⟨h1, _⟩
      · rw [hn] at h1
        injection h1 with h1
        subst h1
        exact ⟨h3, h2⟩
      · rw [hn] at h1
        cases h1
    have hk := Hid.mk (And.intro hs hr)
    clear hs hr hn
    repeat (any_goals (first
      | assumption
      | ((with_reducible show wpAny _ _ ((int_private% "intFromText") _ _ _) _ _ _); refine PySem.W.KIN.wp_text hk.out.1 hk.out.2.1 hk.out.2.2 ?_)
      | wp_step))
    all_goals first | exact ⟨_, rfl, h⟩ | skip
theorem call_text43 {prog : Program} {w : World} {A : Around} {E : Value → Shared → Prop} {s : Shared} {Q : Value → Shared → Prop} {x : PySem.Str} {t : Tok} {n : Int} (hd : NoDig s.heap) (hn : PySem.intText? x = some n) (hl : x.length ≤ 4300) (h : Q (.int n s.toks) { s with toks := s.toks + 1 }) : wpAny (model prog w) A (call (.type "int") [.str x t]) Q E s := by
  by_cases hs : (numSeenOf x).length ≤ 640
  · refine call_int_1 (Gives.meets (m := .int n) ?_) (show (Made.int n).post _ s from ⟨rfl, h⟩)
    exact gives_text640 hs hn
  · exact call_int_1 (meets_text43 hs hl hn) ⟨hd, rfl, h⟩
/-- what else stands behind the top -/
structure Xtra (h : Heap) : Prop where
  dig : NoDig h
  sysm : ∃ o, h.get? sysModules = some o ∧ o.cls ≠ .type "list"
theorem Xtra.keeps {h h' : Heap} (x : Xtra h) (hk : ∀ b o, h.get? b = some o → h'.get? b = some o) : Xtra h' :=
  ⟨x.dig.keeps hk, let ⟨o, a, b⟩ := x.sysm; ⟨o, hk _ _ a, b⟩⟩
/-! a tuple of nothing, times a whole number; truths in sums -/
theorem tuple_mul0 (l : Addr) (items : Array Value) (n : Nat) (dd : Option Addr) (sl : Array (Option Value)) (x : Int) (u : Tok) (c0 : (decide (x < -(2 ^ 63)) || decide (x ≥ 2 ^ 63)) = false) (c1 : (items.isEmpty || x == 1) = true) :
    Meets (Builtin.«tuple.__mul__» ⟨[.ref l, .int x u], []⟩) (fun _ R s => s.heap.get? l = some { cls := .type "tuple", dict := dd, data := .seq items n, slots := sl } ∧
      R (.ok (.ret (Value.ref l))) s) :=
  .of_wp fun prog w A R s h => by
    obtain ⟨hp, g, d, tk, os⟩ := s
    obtain ⟨hl, h⟩ := h
    have f1 := AutoSeq1.idx_int
    wp_walk using wpAny_loadPart' hl
    repeat (first
      | (refine wpAny_ite_false (decide_eq_false (by rw [c0]; exact Bool.false_ne_true)) ?_; wp_walk using wpAny_loadPart' hl)
      | (refine wpAny_ite_true (decide_eq_true (by rw [c1])) ?_; wp_walk using wpAny_loadPart' hl))
    exact ⟨_, rfl, h⟩
section
variable {X : Cx}
theorem op_rep0 : OpR X (binaryOp .Mult) (fun x y H Q => ∃ l k, x = .ref l ∧ y = .int k ∧ SqT X.K H l [] ∧ 0 ≤ k ∧ k ≤ 1000 ∧ Q (.ref l) H) := by
  intro pins s σ H x y v u Q I rx ry h
  obtain ⟨l, k, rfl, rfl, hT, h1, h2, q⟩ := h
  cases rx
  obtain ⟨t, rfl⟩ := ry
  obtain ⟨its, r, ⟨⟨cls, dd, data, sl⟩, ho, hc, n, hd⟩, hs⟩ := I.tuple hT
  simp only at hc hd
  subst hc hd
  cases r
  have c0 : (decide (k < -(2 ^ 63)) || decide (k ≥ 2 ^ 63)) = false := by
    rw [decide_eq_false (by omega), decide_eq_false (by omega)] <;> rfl
  refine wpAny_binaryOp_repeat_ref (T := "tuple") (U := "int") (by decide) ⟨_, ho, rfl⟩ (fun s' => typeIs_int s' k t) noFill_tuple_mul F.fills_int_mul F.slot_int_rmul repeat_tuple F.slot_int_index.lookup
    (call_meets F.slot_int_rmul (typeIs_int s k t) F.entry_int_rmul (F.args_int_rmul_2 _ _) (int_rmul_tuple k t l _ n dd sl)
      ⟨ho, rfl, ⟨_, ho, rfl⟩, call_meets F.slot_tuple_mul ⟨_, ho, rfl⟩ F.entry_tuple_mul (F.args_tuple_mul_2 _ _) (tuple_mul0 l _ n dd sl k t c0 rfl) ⟨ho, ?_⟩⟩)
  exact ⟨.ref l, H, I, rfl, q⟩
theorem op_rep1 : OpR X (binaryOp .Mult) (fun x y H Q => ∃ l xs, x = .ref l ∧ y = .int 1 ∧ SqT X.K H l xs ∧ Q (.ref l) H) := by
  intro pins s σ H x y v u Q I rx ry h
  obtain ⟨l, xs, rfl, rfl, hT, q⟩ := h
  cases rx
  obtain ⟨t, rfl⟩ := ry
  obtain ⟨its, r, ⟨⟨cls, dd, data, sl⟩, ho, hc, n, hd⟩, hs⟩ := I.tuple hT
  simp only at hc hd
  subst hc hd
  have c0 : (decide ((1 : Int) < -(2 ^ 63)) || decide ((1 : Int) ≥ 2 ^ 63)) = false := by decide
  have c1 : (its.toArray.isEmpty || (1 : Int) == 1) = true := by rw [show ((1 : Int) == 1) = true from rfl, Bool.or_true]
  refine wpAny_binaryOp_repeat_ref (T := "tuple") (U := "int") (by decide) ⟨_, ho, rfl⟩ (fun s' => typeIs_int s' 1 t) noFill_tuple_mul F.fills_int_mul F.slot_int_rmul repeat_tuple F.slot_int_index.lookup
    (call_meets F.slot_int_rmul (typeIs_int s 1 t) F.entry_int_rmul (F.args_int_rmul_2 _ _) (int_rmul_tuple 1 t l _ n dd sl)
      ⟨ho, rfl, ⟨_, ho, rfl⟩, call_meets F.slot_tuple_mul ⟨_, ho, rfl⟩ F.entry_tuple_mul (F.args_tuple_mul_2 _ _) (tuple_mul0 l _ n dd sl 1 t c0 c1) ⟨ho, ?_⟩⟩)
  exact ⟨.ref l, H, I, rfl, q⟩
end
theorem tuple_mulZ (l : Addr) (items : Array Value) (n : Nat) (dd : Option Addr) (sl : Array (Option Value)) (u : Tok) (c1 : items.isEmpty = false) :
    Meets (Builtin.«tuple.__mul__» ⟨[.ref l, .int 0 u], []⟩) (fun _ R s => s.heap.get? l = some { cls := .type "tuple", dict := dd, data := .seq items n, slots := sl } ∧
      R (.ok (.ret (Value.ref s.heap.objs.size))) { s with heap := s.heap.push { cls := Value.type "tuple", data := Data.seq #[] }, toks := s.toks }) :=
  .of_wp fun prog w A R s h => by
    obtain ⟨hp, g, d, tk, os⟩ := s
    obtain ⟨hl, h⟩ := h
    have f1 := AutoSeq1.idx_int
    wp_walk using wpAny_loadPart' hl
    repeat (first
      | (refine wpAny_ite_false (decide_eq_false (by rw [show (decide ((0 : Int) < -(2 ^ 63)) || decide ((0 : Int) ≥ 2 ^ 63)) = false from by decide]; exact Bool.false_ne_true)) ?_; wp_walk using wpAny_loadPart' hl)
      | (refine wpAny_ite_false (decide_eq_false (by rw [c1]; decide)) ?_; wp_walk using wpAny_loadPart' hl)
      | (refine wpAny_ite_true (decide_eq_true (by rw [show decide ((0 : Int) ≤ 0) = true from rfl, Bool.true_or])) ?_; wp_walk using wpAny_loadPart' hl))
    exact ⟨_, rfl, h⟩
section
variable {X : Cx}
theorem op_repZ : OpR X (binaryOp .Mult) (fun x y H Q => ∃ l xs, x = .ref l ∧ y = .int 0 ∧ SqT X.K H l xs ∧ xs ≠ [] ∧ ∀ p, H p = none → Q (.ref p) (upd H p (.tup []))) := by
  intro pins s σ H x y v u Q I rx ry h
  obtain ⟨l, xs, rfl, rfl, hT, hne, q⟩ := h
  cases rx
  obtain ⟨t, rfl⟩ := ry
  obtain ⟨its, r, ⟨⟨cls, dd, data, sl⟩, ho, hc, n, hd⟩, hs⟩ := I.tuple hT
  simp only at hc hd
  subst hc hd
  have hle : its.length = xs.length := r.length.symm
  have hi : its.toArray.isEmpty = false := by
    cases its with
    | nil => exact absurd (List.eq_nil_of_length_eq_zero hle.symm) hne
    | cons a b => rfl
  refine wpAny_binaryOp_repeat_ref (T := "tuple") (U := "int") (by decide) ⟨_, ho, rfl⟩ (fun s' => typeIs_int s' 0 t) noFill_tuple_mul F.fills_int_mul F.slot_int_rmul repeat_tuple F.slot_int_index.lookup
    (call_meets F.slot_int_rmul (typeIs_int s 0 t) F.entry_int_rmul (F.args_int_rmul_2 _ _) (int_rmul_tuple 0 t l _ n dd sl)
      ⟨ho, rfl, ⟨_, ho, rfl⟩, call_meets F.slot_tuple_mul ⟨_, ho, rfl⟩ F.entry_tuple_mul (F.args_tuple_mul_2 _ _) (tuple_mulZ l _ n dd sl t hi) ⟨ho, ?_⟩⟩)
  refine ⟨.ref s.heap.objs.size, _, I.laid (t' := s.toks) (o := .tup []) (fun b ob q => Heap.get?_push_of_some _ q) (Nat.le_refl _) ?_, rfl, q _ (I.hok.fresh (Nat.le_refl _))⟩
  exact ⟨Nat.zero_le _, [], .nil, IsTup.new _ _⟩
theorem strMul_size (a : Array Nat) : ∀ (n : Nat) (acc : Array Nat), ((List.replicate n a).foldl (· ++ ·) acc).size = acc.size + n * a.size
  | 0, acc => by simp
  | n + 1, acc => by
    rw [List.replicate_succ, List.foldl_cons, strMul_size a n, Array.size_append, Nat.succ_mul]
    omega
theorem strMul_0 (s : Str) : strMul s 0 = Str.empty := rfl
theorem strMul_1 (s : Str) : strMul s 1 = s := by
  obtain ⟨c⟩ := s
  show (⟨#[] ++ c⟩ : Str) = ⟨c⟩
  simp
theorem op_mulS : OpR X (binaryOp .Mult) (fun x y H Q => ∃ s k, x = .str s ∧ y = .int k ∧ -1000 ≤ k ∧ k ≤ 1000 ∧ 1 ≤ s.length ∧ s.length ≤ 1000 ∧ Q (.str (strMul s k.toNat)) H) := by
  intro pins s σ H x y v u Q I rx ry h
  obtain ⟨z, k, rfl, rfl, h1, h2, h3, h4, q⟩ := h
  obtain ⟨t, rfl⟩ := rx
  obtain ⟨t', rfl⟩ := ry
  have hm : z.length * k.toNat ≤ 1000 * 1000 := Nat.mul_le_mul h4 (by omega)
  refine PySem.P.mul_str (by rw [decide_eq_false (by omega), decide_eq_false (by omega)]; rfl) (fun _ _ => ?_) (fun _ _ => ?_) ?_
  · have e : (1000 : Int) ≤ (2 ^ 63 - 1) / k := Int.le_ediv_of_mul_le (by omega) (by omega)
    omega
  · have hs : sizeLine = 16777216 := sizeLine_eq
    unfold Builtin.Str.tooLong
    exact decide_eq_false (by omega)
  · by_cases c0 : k < 1
    · rw [if_pos c0]
      have e0 : k.toNat = 0 := by omega
      rw [e0, strMul_0] at q
      exact ⟨by decide, .str _, H, I.tok _, ⟨_, rfl⟩, q⟩
    · rw [if_neg c0]
      by_cases c1 : k = 1
      · subst c1
        rw [if_pos (by simp)]
        have e1 : (1 : Int).toNat = 1 := rfl
        rw [e1, strMul_1] at q
        exact ⟨.str _, H, I, ⟨_, rfl⟩, q⟩
      · have hk : (k == 1 || z.length == 0) = false := by
          rw [beq_eq_false_iff_ne.mpr c1, Bool.false_or]
          exact beq_eq_false_iff_ne.mpr (by omega)
        rw [hk]
        have hl : (strMul z k.toNat).length ≤ sizeLine := by
          have e := strMul_size z.cps k.toNat #[]
          have e2 : (strMul z k.toNat).length = k.toNat * z.length := by
            show Array.size _ = k.toNat * z.cps.size
            rw [show (strMul z k.toNat).cps = (List.replicate k.toNat z.cps).foldl (· ++ ·) #[] from rfl, e]
            simp
          have hs : sizeLine = 16777216 := sizeLine_eq
          rw [e2, Nat.mul_comm]
          omega
        exact ⟨hl, .str _, H, I.tok _, ⟨_, rfl⟩, q⟩
theorem op_eqN (hu : X.A.units < cLine) : OpR X (compareOp .Eq) (fun x y H Q => ∃ a b xs, x = .ref a ∧ y = .ref b ∧ SqT X.K H a xs ∧ SqT X.K H b [] ∧ Q (.bl xs.isEmpty) H) := by
  intro pins s σ H x y v u Q I rx ry h
  obtain ⟨a, b, xs, rfl, rfl, hT, hT2, q⟩ := h
  cases rx
  cases ry
  obtain ⟨its, r, hl, hs⟩ := I.tuple hT
  obtain ⟨its2, r2, hl2, hs2⟩ := I.tuple hT2
  cases r2
  refine SeqAt.RcAt.tuples (e := fun _ => true) hl hl2 hu (fun j h1 h2 => absurd h2 (by simp)) _ _ _ _ ?_
  have e : ((List.range (min its.toArray.size (#[] : Array Value).size)).all (fun _ => true) && its.toArray.size == (#[] : Array Value).size) = xs.isEmpty := by
    have := r.length
    cases its <;> cases xs <;> simp_all
  refine ⟨.bl xs.isEmpty, H, I, ?_, q⟩
  rw [← e]
  rfl
theorem op_neN (hu : X.A.units < cLine) : OpR X (compareOp .NotEq) (fun x y H Q => ∃ a b xs, x = .ref a ∧ y = .ref b ∧ SqT X.K H a xs ∧ SqT X.K H b [] ∧ Q (.bl (!xs.isEmpty)) H) := by
  intro pins s σ H x y v u Q I rx ry h
  obtain ⟨a, b, xs, rfl, rfl, hT, hT2, q⟩ := h
  cases rx
  cases ry
  obtain ⟨its, r, hl, hs⟩ := I.tuple hT
  obtain ⟨its2, r2, hl2, hs2⟩ := I.tuple hT2
  cases r2
  refine SeqAt.RcNeAt.tuples (e := fun _ => true) hl hl2 hu (fun j h1 h2 => absurd h2 (by simp)) _ _ _ _ ?_
  have e : ((List.range (min its.toArray.size (#[] : Array Value).size)).all (fun _ => true) && its.toArray.size == (#[] : Array Value).size) = xs.isEmpty := by
    have := r.length
    cases its <;> cases xs <;> simp_all
  refine ⟨.bl (!xs.isEmpty), H, I, ?_, q⟩
  rw [← e]
  rfl
theorem op_addB : OpR X (binaryOp .Add) (fun x y H Q => ∃ b j, x = .bl b ∧ y = .int j ∧ Q (.int (b.toInt + j)) H) := by
  intro pins s σ H x y v u Q I rx ry h
  obtain ⟨b, j, rfl, rfl, q⟩ := h
  obtain rfl : v = Value.bool b := rx
  obtain ⟨t, rfl⟩ := ry
  exact IntBool.add_bool_int ⟨.int (b.toInt + j), H, I.tok _, by cases b <;> exact ⟨_, rfl⟩, q⟩
theorem op_subB : OpR X (binaryOp .Sub) (fun x y H Q => ∃ b j, x = .bl b ∧ y = .int j ∧ Q (.int (b.toInt - j)) H) := by
  intro pins s σ H x y v u Q I rx ry h
  obtain ⟨b, j, rfl, rfl, q⟩ := h
  obtain rfl : v = Value.bool b := rx
  obtain ⟨t, rfl⟩ := ry
  exact IntBool.sub_bool_int ⟨.int (b.toInt - j), H, I.tok _, by cases b <;> exact ⟨_, rfl⟩, q⟩
theorem op_subI : OpR X (binaryOp .Sub) (fun x y H Q => ∃ i b, x = .int i ∧ y = .bl b ∧ Q (.int (i - b.toInt)) H) := by
  intro pins s σ H x y v u Q I rx ry h
  obtain ⟨i, b, rfl, rfl, q⟩ := h
  obtain rfl : u = Value.bool b := ry
  obtain ⟨t, rfl⟩ := rx
  exact IntBool.sub_int_bool ⟨.int (i - b.toInt), H, I.tok _, by cases b <;> exact ⟨_, rfl⟩, q⟩
theorem call_str_ib : CallR X (.type "str") (fun xs H Q => (∃ i : Int, xs = [.int i] ∧ i.natAbs.log2 < 1920 ∧ Q (.str (toString i)) H) ∨ ∃ b : Bool, xs = [.bl b] ∧ Q (.str (boolText b)) H) := by
  intro pins s σ H xs us Q I r h
  rcases h with ⟨i, rfl, hz, q⟩ | ⟨b, rfl, q⟩
  · obtain ⟨u, rfl, t, rfl⟩ := vals1 r
    exact PySem.P.str_of_int hz ⟨.str _, H, I.tok _, ⟨_, rfl⟩, q⟩
  · obtain ⟨u, rfl, r1⟩ := vals1 r
    cases r1
    exact PySem.P.str_of_bool ⟨.str _, H, I.tok _, ⟨_, rfl⟩, q⟩
end
end PV

/-! max of a tuple of whole numbers -/
namespace PV
open PySem PySem.Spec PyProof.Rows L2
section
variable {X : Cx}
/-- min, max of whole numbers, with what is told of none -/
theorem reads_ints : ∀ {ns : List Int} {its : List Value} (h : Heap), Vals (ns.map V.int) its → ∃ as, ReadsAll h its (ns.map PyData.int) as
  | [], _, _, .nil => ⟨_, .nil⟩
  | n :: ns, _, h, .cons r rs => by
    obtain ⟨t, rfl⟩ := r
    obtain ⟨as, e⟩ := reads_ints h rs
    exact ⟨_, .cons (.int n t) e⟩
theorem alike_ints (ns : List Int) : PySem.W.AlikeAll (ns.map PyData.int) := by
  refine ⟨fun x hx y hy => ?_, fun x hx => ?_⟩
  · obtain ⟨_, _, rfl⟩ := List.mem_map.mp hx
    obtain ⟨_, _, rfl⟩ := List.mem_map.mp hy
    rfl
  · obtain ⟨_, _, rfl⟩ := List.mem_map.mp hx
    intro z; cases z
theorem depth_ints0 : ∀ ns : List Int, PyData.depthAll (ns.map PyData.int) = 0
  | [] => rfl
  | n :: ns => by
    show max 0 (PyData.depthAll _) = 0
    rw [depth_ints0 ns]; rfl
theorem foldMin : ∀ (ns : List Int) (n : Int), ns.foldl min n ∈ n :: ns ∧ ∀ y ∈ n :: ns, ns.foldl min n ≤ y
  | [], n => ⟨by simp, by simp⟩
  | k :: ns, n => by
    obtain ⟨a, b⟩ := foldMin ns (min n k)
    rw [List.foldl_cons]
    refine ⟨?_, fun y hy => ?_⟩
    · rcases List.mem_cons.mp a with e | a
      · rw [e]
        rcases Int.le_total n k with c | c
        · rw [Int.min_eq_left c]; simp
        · rw [Int.min_eq_right c]; simp
      · exact List.mem_cons_of_mem _ (List.mem_cons_of_mem _ a)
    · have h0 := b (min n k) List.mem_cons_self
      rcases List.mem_cons.mp hy with rfl | hy
      · omega
      · rcases List.mem_cons.mp hy with rfl | hy
        · omega
        · exact b y (List.mem_cons_of_mem _ hy)
theorem foldMax : ∀ (ns : List Int) (n : Int), ns.foldl max n ∈ n :: ns ∧ ∀ y ∈ n :: ns, y ≤ ns.foldl max n
  | [], n => ⟨by simp, by simp⟩
  | k :: ns, n => by
    obtain ⟨a, b⟩ := foldMax ns (max n k)
    rw [List.foldl_cons]
    refine ⟨?_, fun y hy => ?_⟩
    · rcases List.mem_cons.mp a with e | a
      · rw [e]
        rcases Int.le_total n k with c | c
        · rw [Int.max_eq_right c]; simp
        · rw [Int.max_eq_left c]; simp
      · exact List.mem_cons_of_mem _ (List.mem_cons_of_mem _ a)
    · have h0 := b (max n k) List.mem_cons_self
      rcases List.mem_cons.mp hy with rfl | hy
      · omega
      · rcases List.mem_cons.mp hy with rfl | hy
        · omega
        · exact b y (List.mem_cons_of_mem _ hy)
theorem cr_maxT (hc : X.calm = true) (hu : X.A.units + 65 < cLine) : CallR X (.builtin "max") (fun vs H Q => ∃ (a : Addr) (ns : List Int), vs = [V.ref a] ∧ SqT X.K H a (ns.map V.int) ∧ 0 < ns.length ∧ ∀ m, m ∈ ns → (∀ y, y ∈ ns → y ≤ m) → Q (.int m) H) := by
  intro pins s σ H vs us Q I r h
  obtain ⟨p, ns, rfl, hq, hne, h1⟩ := h
  rw [Vals.ref1 r]
  obtain ⟨its, rv, pl, _⟩ := I.tuple hq
  cases ns with
  | nil => exact absurd hne (by decide)
  | cons n ns =>
    obtain ⟨as, hr⟩ := reads_ints s.heap rv
    rw [List.map_cons] at hr
    refine PySem.W.max_tuple_data (vs := its.toArray) (I.ok.hd hc) (show s.heap.IsTuple p its.toArray from pl) (by simpa using hr) (by have := alike_ints (n :: ns); rwa [List.map_cons] at this) (by have := depth_ints0 (n :: ns); rw [List.map_cons] at this; rw [this]; omega) fun i v h' tk bs hv hrd hk => ?_
    rw [PySem.W.maxD_ints] at hrd
    obtain ⟨a, b⟩ := foldMax ns n
    cases hrd with
    | int k t => exact ⟨.int _, H, I.kept hk, ⟨_, rfl⟩, h1 _ a b⟩
end
end PV

/-! calls of defs where nothing is being shown (no guard stands): own twins of the layer's rules -/
namespace PV
open PySem PySem.Spec PyProof.Rows L2

/-- a def's promise, where no guard stands -/
structure FnG (P : Program) (w : World) (K : PySem.W.Frag) (mg : Str → Option Value) (base : Heap) (k : Nat) (f : Addr) (fd : FuncData) (ps : List Str) (sp : Sp) : Prop where
  many : ∀ xs H Q E, sp xs H Q E → xs.length = ps.length
  goes : ∀ (A : Around) (out : List Env) (s : Shared) (H : Hp) (ar : Args) (us : List Value) (xs : List V) (Q : VK) (E : XK), Room k A → A.guards = some [] →
    Env0 P w K mg base A out s H → BindsTo s fd ar (ps.zip us) → Vals xs us → sp xs H Q E → codeAny (model P w) A (.call (.ref f) ar) (CR CX0 out P w H s Q E) s

section
variable {X : Cx} {k : Nat} {f : Addr} {fd : FuncData} {ps : List Str} {sp : Sp} {dvs : List V} {ds : List Value} {E : XK} {x : Str} {p pos : Pos} {e : Expr} {es : List Expr} {t : TA}
theorem go_fn {pins : List (Addr × Obj)} {σ : L2.St} {H : Hp} {s : Shared} {Q : VK} {us : List Value} {xs : List V} (F : FnG X.prog X.w X.K X.mg X.base k f fd ps sp) (hr : Room k X.A) (hg : X.A.guards = some []) (hb : Binds X.K fd ps ds) (hd : Vals dvs ds)
    (I : Inv X pins σ H s) (r : Vals xs us) (h : sp (xs ++ dvs) H Q E) : wpAny (model X.prog X.w) X.A (call (.ref f) us) (EP X pins σ Q) X.xe s := by
  have rr : Vals (xs ++ dvs) (us ++ ds) := r.append hd
  have hz : (us ++ ds).length = ps.length := by rw [← rr.length]; exact F.many _ _ _ _ h
  have go := F.goes X.A X.stack s H ⟨us, []⟩ (us ++ ds) (xs ++ dvs) Q E hr hg I.env0 (hb s us I.kIn hz) rr h
  refine wpAny_call (codeAny_mono go fun res s2 q => ?_)
  match res, q with
  | .ok (.ret u), q => exact I.after q
  | .ok .next, q => exact False.elim q
  | .ok .brk, q => exact False.elim q
  | .ok .cont, q => exact False.elim q
  | .error _, q => exact False.elim q
theorem pe_go (F : FnG X.prog X.w X.K X.mg X.base k f fd ps sp) (hr : Room k X.A) (hgd : X.A.guards = some []) (hg : Gl X x) (hm : X.mg x = some (.ref f)) (hk : PySem.W.keepIn X.K (.ref f) = true) (hb : Binds X.K fd ps ds) (hd : Vals dvs ds)
    (ha : PA X (e :: es) t) (hdb : (x == ("__debug__" : Str)) = false) (he : starEach (e :: es) X.env = (false, eval e X.env) :: starEach es X.env) (hpl : (backTo pos (starEach es X.env)).any (·.1) = false) :
    PE X (.Call (.Name x p) (e :: es) [] pos) (tCall sp dvs E t) := ⟨fun pins s σ H Q I h =>
  wpAny_Call_Name_kw (ld_glob I hg hm (PySem.W.callWith_K (h₀ := X.base) I.ok.mod.kin hk
    (thn (ha.run pos pins s σ H _ I h) fun us s1 ⟨xs, H1, I1, r, q⟩ => ⟨I1.kIn, go_fn F hr hgd hb hd I1 r q⟩) he hpl) hdb)⟩
theorem pe_go0 (F : FnG X.prog X.w X.K X.mg X.base k f fd ps sp) (hr : Room k X.A) (hgd : X.A.guards = some []) (hg : Gl X x) (hm : X.mg x = some (.ref f)) (hk : PySem.W.keepIn X.K (.ref f) = true) (hb : Binds X.K fd ps ds) (hd : Vals dvs ds)
    (hdb : (x == ("__debug__" : Str)) = false) : PE X (.Call (.Name x p) [] [] pos) (tCall sp dvs E tNil) := ⟨fun pins s σ H Q I h =>
  wpAny_Call_Name_kw (ld_glob I hg hm (PySem.W.callWith_K0 I.kIn hk (go_fn (us := []) F hr hgd hb hd I .nil h)) hdb)⟩
end

/-- a def by its body -/
theorem fn_go {P : Program} {w : World} {K : PySem.W.Frag} {mg : Str → Option Value} {base : Heap} {k : Nat} {f : Addr} {nm ql : Str} {ar : Arguments} {bd : List Stmt} {sc : Scope} {dV kV doc pm cdv ct oc : Value} {an od : Option Addr}
    {osl : Array (Option Value)} {N ps : List Str} {sp : Sp} (lk : K.lookup f = some ⟨oc, od, .func (PySem.W.fnOf nm ql ar bd sc dV kV doc pm an cdv ct), osl⟩) (hcd : PySem.W.codeIn K cdv ql = true) (S : FnScope N ps sc) (many : ∀ xs H Q E, sp xs H Q E → xs.length = ps.length)
    (body : ∀ (A : Around) (out : List Env) (s : Shared) (H : Hp) (xs : List V) (Q : VK) (E : XK), Room k (A.deeper (envOfC ql sc s.heap.objs.size f cdv)) → A.guards = some [] → sp xs H Q E →
      ∃ t, PSs (cxOf CX0 P w K mg base N ql sc f cdv A out s H E) bd t ∧ t { nx := fun _ H2 => Q .non H2, rt := Q } (start N xs) H) :
    FnG P w K mg base (k + 1) f (PySem.W.fnOf nm ql ar bd sc dV kV doc pm an cdv ct) ps sp := by
  refine ⟨many, fun A out s H args us xs Q E hr hgd e0 hb r hsp => ?_⟩
  have hlen := many _ _ _ _ hsp
  have inK : K.In s.heap := e0.mod.kin.keeps fun b o e => (e0.bs b o e).1
  have noL : s.heap.NoLimit := e0.mod.nolimit.keeps fun b o e => (e0.bs b o e).1
  have kinds : ∀ y ∈ ps.zip us, sc.names.lookup y.1 = some .local ∨ (sc.names.lookup y.1 = some .cell ∧ ((cellsFrom (s.heap.objs.size + 1) sc.names []).lookup y.1).isSome = true) := by
    rintro ⟨n, v⟩ hy
    cases S.par n (List.of_mem_zip hy).1 with
    | inl q => exact .inl q
    | inr q => exact .inr ⟨q, PySem.W.cellsFrom_some _ _ _ (.inl q)⟩
  refine codeAny_call_function hr.depth (inK _ _ lk) rfl S.co S.gen rfl (PySem.W.codeRec_of inK hcd) (hb _ _ _ _ (wpAny_newFunctionEnv_cells S.kind kinds fun env he s1 x => ?_))
  subst he
  refine ⟨noL.keeps x.toInCall.keep, codeAny_func ?_⟩
  obtain ⟨t, ht, hq⟩ := body A out s H xs Q E (hr.deeper _) hgd hsp
  have I : Inv (cxOf CX0 P w K mg base N ql sc f cdv A out s H E) [] (start N xs) H s1 := inv_start S hr.hd e0 hlen r x
  have last : ∀ {σ2 : L2.St} {H2 : Hp} {v : V} {u : Value} {s2 : Shared}, Inv (cxOf CX0 P w K mg base N ql sc f cdv A out s H E) [] σ2 H2 s2 → RelV v u → Q v H2 → CE out P w H s Q u s2 :=
    fun {σ2 H2 v u s2} J rv q => ⟨v, H2, J.os, J.bare, J.base, J.hok, rv, q⟩
  refine wpAny_mono (ht.run [] s1 (start N xs) H _ I hq) (fun fl s2 hs => ?_) fun e s2 hs => hs
  match fl, hs with
  | .ret u, ⟨v, σ2, H2, J, rv, q⟩ => exact last J rv q
  | .next, ⟨σ2, H2, J, q⟩ => exact last (v := V.non) (u := Value.none) J rfl q
  | .brk, ⟨_, _, _, q⟩ => exact False.elim q
  | .cont, ⟨_, _, _, q⟩ => exact False.elim q

/-- the law's call, behind the module's top -/
theorem law_go {P : Program} {w : World} {K : PySem.W.Frag} {mg mb : Str → Option Value} {k : Nat} {fa a : Addr} {fd : FuncData} {x : Str} {sp : Sp} {t : Shared} {vs : List Value} {ns : List Int}
    (hK : K.In t.heap) (hns : t.heap.Ns mainGlobals mg) (hb : t.heap.Ns builtinsNs mb) (hbb : ∀ x : Str, x ≠ "__name__" → mb x = bootBuiltins x) (noL : t.heap.NoLimit) (hgn : t.gens = #[])
    (ha : t.heap.get? a = some { cls := .type "list", data := .seq vs.toArray }) (hi : IntsAre vs ns) (hl : ns.length ≤ sizeLine) (hr : Room k callerA)
    (F : ∀ base : Heap, K.In base → base.Ns mainGlobals mg → FnG P w K mg base k fa fd [x] sp) (bnd : ∀ (s : Shared) (u : Value), BindsTo s fd ⟨[u], []⟩ [(x, u)])
    (hsp : ∀ H : Hp, Only H → SqL K H a (ns.map V.int) → sp [.ref a] H (fun v _ => v = .bl true) fun _ _ _ => False) :
    codeAny (model P w) callerA (.call (.ref fa) ⟨[.ref a], []⟩) (fun r u => r = .ok (.ret (.bool true)) ∧ OldK t.heap u.heap ∧ u.os = t.os ∧ AllBare u.gens) t := by
  have rv := vals_ints hi
  have lv := hi.length
  have core : ∀ H : Hp, Only H → SqL K H a (ns.map V.int) → HOk P w H t.heap → (∀ b, H b ≠ none → b = a) → (H a ≠ none → K.lookup a = none) →
      codeAny (model P w) callerA (.call (.ref fa) ⟨[.ref a], []⟩) (fun r u => r = .ok (.ret (.bool true)) ∧ OldK t.heap u.heap ∧ u.os = t.os ∧ AllBare u.gens) t := by
    intro H hO hS hok own hKa
    have inB : ∀ {b : Addr} {o : Obj}, t.heap.get? b = some o → H b = none → (hidT t.heap H).get? b = some o := fun e n => hidT_get e n
    have isA : ∀ {b : Addr} {u : HO}, H b = some u → b = a := fun {b u} q => own b (by rw [q]; simp)
    have dcts : ∀ {b : Addr} {o : Obj} {es : Array DictEntry} {ep : Nat}, t.heap.get? b = some o → o.data = .dict es ep → H b = none := by
      intro b o es ep e d
      cases q : H b with
      | none => rfl
      | some u =>
        obtain rfl := isA q
        rw [ha] at e
        cases e
        exact nomatch (show Data.seq vs.toArray _ = Data.dict es ep from d)
    have nsB : ∀ {b : Addr} {m : Str → Option Value}, t.heap.Ns b m → (hidT t.heap H).Ns b m := fun {b m} ⟨o, es, ep, e, d, r⟩ => ⟨o, es, ep, inB e (dcts e d), d, r⟩
    have kB : K.In (hidT t.heap H) := by
      intro b o e
      refine inB (hK b o e) ?_
      cases q : H b with
      | none => rfl
      | some u =>
        obtain rfl := isA q
        rw [hKa (by rw [q]; simp)] at e
        cases e
    obtain ⟨mc, n1, n2⟩ := noL
    have hM : Mod K mg (hidT t.heap H) := ⟨kB, nsB hns, ⟨mb, nsB hb, hbb⟩, mc, nsB n1, n2⟩
    have e0 : Env0 P w K mg (hidT t.heap H) callerA [] t H := ⟨rfl, hM, fun b o e => of_hidT e, Nat.le_of_eq (hidT_size _ _), trivial, (fun b hb => nomatch (show b ∈ ([] : List Addr) from hb)), hok, .of_eq hgn⟩
    have go := (F _ kB (nsB hns)).goes callerA [] t H ⟨[.ref a], []⟩ [.ref a] [.ref a] _ _ hr rfl e0 (bnd t (.ref a)) (.cons rfl .nil) (hsp H hO hS)
    refine codeAny_mono go fun r u h => ?_
    match r, h with
    | .error e, h => exact False.elim h
    | .ok .next, h => exact False.elim h
    | .ok .brk, h => exact False.elim h
    | .ok .cont, h => exact False.elim h
    | .ok (.ret z), h =>
      obtain ⟨v, H2, os, bare, un, hok2, rz, q⟩ := h
      have q2 : v = .bl true := q
      subst q2
      obtain rfl : z = Value.bool true := rz
      refine ⟨rfl, OldK.of_keep fun b o e => ?_, os, bare⟩
      cases q : H b with
      | none => exact un.keep b o e q (fun z => nomatch (show b ∈ ([] : List Addr) from z)) (by simp)
      | some y =>
        rcases hO b with z | ⟨ob, xs, z⟩
        · rw [q] at z; cases z
        · have i1 := (hok b _ z).1
          have i2 := (hok2 b _ (un.frzs b ob _ z)).1
          rw [e] at i1
          cases i1
          exact i2
  cases hk : K.lookup a with
  | some o =>
    have e := hK a o hk
    rw [ha] at e
    cases e
    have sz : vs.toArray.size ≤ sizeLine := by rw [List.size_toArray, lv]; exact hl
    exact core (fun _ => none) (fun _ => .inl rfl) (.inr ⟨_, vs.toArray, _, hk, rfl, rfl, rfl, sz, by simpa using rv⟩) (fun b u z => nomatch (show (none : Option HO) = some u from z)) (fun b z => absurd rfl z) fun z => absurd rfl z
  | none =>
    have one : ∀ {b : Addr} {u : HO}, (if b = a then some (HO.frz { cls := .type "list", data := .seq vs.toArray } (.lst (ns.map V.int))) else none) = some u → b = a ∧ u = HO.frz { cls := .type "list", data := .seq vs.toArray } (.lst (ns.map V.int)) := by
      intro b u z
      by_cases q : b = a
      · rw [if_pos q] at z
        cases z
        exact ⟨q, rfl⟩
      · rw [if_neg q] at z
        cases z
    refine core (fun b => if b = a then some (HO.frz { cls := .type "list", data := .seq vs.toArray } (.lst (ns.map V.int))) else none) (fun b => ?_) (.inl (.inr ⟨{ cls := .type "list", data := .seq vs.toArray }, if_pos rfl⟩)) (fun b u z => ?_) (fun b z => ?_) fun _ => hk
    · by_cases q : b = a
      · exact .inr ⟨_, _, if_pos q⟩
      · exact .inl (if_neg q)
    · obtain ⟨rfl, rfl⟩ := one z
      exact ⟨ha, by rw [List.length_map]; exact hl, vs, _, rv, ha⟩
    · by_cases q : b = a
      · exact q
      · exact absurd (if_neg q) z
/-- a law: what its def promises makes its walk -/
theorem walk_go {l : PySem.W.OpenLaw} {n k : Nat} {q : Program} {loose : List Str} {XP : (Str → Option Value) → Heap → Prop} {YP : World → Heap → Prop} {d : DefRec} {x : Str} (hn : l.most = some n) (hn2 : n ≤ sizeLine) (hdf : d.params.defaults = []) (hr : Room k callerA)
    (F : ∀ (w : World) (mg : Str → Option Value) (fa : Addr) (h : Heap), YP w h → h.Ns mainGlobals mg → mg d.name = some (.ref fa) → ∃ (K : PySem.W.Frag) (fd : FuncData) (sp : Sp), K.In h ∧ (∀ (s : Shared) (u : Value), BindsTo s fd ⟨[u], []⟩ [(x, u)]) ∧
      (∀ (H : Hp) (a : Addr) (ns : List Int), ns.length ≤ n → Only H → SqL K H a (ns.map V.int) → sp [.ref a] H (fun v _ => v = .bl true) fun _ _ _ => False) ∧ ∀ base : Heap, K.In base → base.Ns mainGlobals mg → FnG l.prog w K mg base k fa fd [x] sp) :
    PySem.W.WalkO q loose XP YP l.row.toRowW d [] (fun f vs => PySem.call f vs) := by
  refine Att.attach_call hn hdf fun w s t mg mb fa o pm cd doc a vs ns G Y h1 h2 h3 hmg hobj hi hl hg => ?_
  obtain ⟨K, fd, sp, KX, bnd, hsp, hF⟩ := F w mg fa _ Y G.T.g hmg
  exact law_go KX G.T.g G.T.b G.T.builtins G.T.nolimit hg hobj hi (Nat.le_trans hl hn2) hr hF bnd fun H hO hS => hsp H a ns hl hO hS
/-- no list that may be written -/
def NoLst (H : Hp) : Prop := ∀ b xs, H b ≠ some (.lst xs)
def emptyO : Obj := { cls := .none, data := .fields #[] }
/-- the law's call, where defs have tables of code objects -/
theorem law_goT {P : Program} {w : World} {K : PySem.W.Frag} {mg mb : Str → Option Value} {k : Nat} {fa a : Addr} {fd : FuncData} {x : Str} {sp : Sp} {t : Shared} {vs : List Value} {ns : List Int} {cs : List (Addr × Addr)}
    (hK : K.In t.heap) (hns : t.heap.Ns mainGlobals mg) (hb : t.heap.Ns builtinsNs mb) (hbb : ∀ x : Str, x ≠ "__name__" → mb x = bootBuiltins x) (noL : t.heap.NoLimit) (hgn : t.gens = #[])
    (hbm : ∃ (bm : Addr) (ob : Obj), mg "__builtins__" = some (.ref bm) ∧ bm ≠ builtinsNs ∧ t.heap.get? bm = some ob ∧ ob.cls = .type "module" ∧ ob.dict = some builtinsNs ∧ ob.data = .plain)
    (hT : ∀ p ∈ cs, t.heap.get? p.2 = some emptyO) (nT : ∀ p ∈ cs, K.lookup p.2 = none) (hC : ∀ p ∈ cs, PySem.W.CodeHd t.heap p.1 p.2)
    (ha : t.heap.get? a = some { cls := .type "list", data := .seq vs.toArray }) (hi : IntsAre vs ns) (hl : ns.length ≤ sizeLine) (hr : Room k callerA)
    (F : ∀ base : Heap, K.In base → base.Ns mainGlobals mg → (∀ p ∈ cs, LamX.TabB base mg p.1 p.2) → FnG P w K mg base k fa fd [x] sp) (bnd : ∀ (s : Shared) (u : Value), BindsTo s fd ⟨[u], []⟩ [(x, u)])
    (hsp : ∀ H : Hp, NoLst H → (∀ p ∈ cs, H p.2 = some (.tbl #[])) → SqL K H a (ns.map V.int) → sp [.ref a] H (fun v _ => v = .bl true) fun _ _ _ => False) :
    codeAny (model P w) callerA (.call (.ref fa) ⟨[.ref a], []⟩) (fun r u => r = .ok (.ret (.bool true)) ∧ OldK t.heap u.heap ∧ u.os = t.os ∧ AllBare u.gens) t := by
  have rv := vals_ints hi
  have lv := hi.length
  have tabs : ∀ b ∈ cs.map (·.2), t.heap.get? b = some emptyO := fun b hb => by
    obtain ⟨p, hp, rfl⟩ := List.mem_map.mp hb
    exact hT p hp
  have inT : ∀ p ∈ cs, p.2 ∈ cs.map (·.2) := fun p hp => List.mem_map_of_mem hp
  have aT : a ∉ cs.map (·.2) := fun z => by
    have q := tabs a z
    rw [ha] at q
    exact nomatch (show Data.seq vs.toArray _ = Data.fields #[] from congrArg Obj.data (Option.some.inj q))
  have core : ∀ H : Hp, NoLst H → (∀ p ∈ cs, H p.2 = some (.tbl #[])) → (∀ b, b ∉ cs.map (·.2) → H b = none ∨ ∃ o xs, H b = some (.frz o (.lst xs))) → SqL K H a (ns.map V.int) → HOk P w H t.heap → (∀ b, H b ≠ none → b = a ∨ b ∈ cs.map (·.2)) → (H a ≠ none → K.lookup a = none) →
      codeAny (model P w) callerA (.call (.ref fa) ⟨[.ref a], []⟩) (fun r u => r = .ok (.ret (.bool true)) ∧ OldK t.heap u.heap ∧ u.os = t.os ∧ AllBare u.gens) t := by
    intro H hN hH hO hS hok own hKa
    have inB : ∀ {b : Addr} {o : Obj}, t.heap.get? b = some o → H b = none → (hidT t.heap H).get? b = some o := fun e n => hidT_get e n
    -- what is no list and no empty table is not told
    have out : ∀ {b : Addr} {o : Obj}, t.heap.get? b = some o → (∀ vs n, o.data ≠ .seq vs n) → o.data ≠ .fields #[] → H b = none := by
      intro b o e d1 d2
      cases q : H b with
      | none => rfl
      | some u =>
        rcases own b (by rw [q]; simp) with rfl | z
        · rw [ha] at e
          cases e
          exact absurd rfl (d1 _ _)
        · rw [tabs b z] at e
          cases e
          exact absurd rfl d2
    have dcts : ∀ {b : Addr} {o : Obj} {es : Array DictEntry} {ep : Nat}, t.heap.get? b = some o → o.data = .dict es ep → H b = none := fun e d =>
      out e (fun vs n z => by rw [d] at z; cases z) fun z => by rw [d] at z; cases z
    have nsB : ∀ {b : Addr} {m : Str → Option Value}, t.heap.Ns b m → (hidT t.heap H).Ns b m := fun {b m} ⟨o, es, ep, e, d, r⟩ => ⟨o, es, ep, inB e (dcts e d), d, r⟩
    have kB : K.In (hidT t.heap H) := by
      intro b o e
      refine inB (hK b o e) ?_
      cases q : H b with
      | none => rfl
      | some u =>
        rcases own b (by rw [q]; simp) with rfl | z
        · rw [hKa (by rw [q]; simp)] at e
          cases e
        · obtain ⟨p, hp, rfl⟩ := List.mem_map.mp z
          rw [nT p hp] at e
          cases e
    have tB : ∀ p ∈ cs, LamX.TabB (hidT t.heap H) mg p.1 p.2 := fun p hp => by
      have gm : mainGlobals ≠ p.2 := fun z => by
        obtain ⟨o, es, ep, e, d, _⟩ := hns
        rw [z, hT p hp] at e
        cases e
        cases d
      refine ⟨?_, ?_, gm⟩
      · obtain ⟨o, us, fi, tf, fl, tg, inF, tx, tt, e1, r1, r2, r3, r4⟩ := hC p hp
        refine ⟨o, us, fi, tf, fl, tg, inF, tx, tt, inB e1 (out e1 (fun vs n z => by rw [r2] at z; cases z) fun z => ?_), r1, r2, r3, r4⟩
        rw [r2] at z
        cases z
        simp at r3
      · obtain ⟨bm, ob, b1, b2, b3, b4, b5, b6⟩ := hbm
        refine ⟨bm, ob, b1, b2, fun z => ?_, fun z => ?_, inB b3 (out b3 (fun vs n z => by rw [b6] at z; cases z) fun z => by rw [b6] at z; cases z), b4, b5, b6⟩
        · obtain ⟨o, es, ep, e, d, _⟩ := hns
          rw [← z, b3] at e
          cases e
          rw [b6] at d
          cases d
        · rw [z, hT p hp] at b3
          cases b3
          cases b6
    obtain ⟨mc, n1, n2⟩ := noL
    have hM : Mod K mg (hidT t.heap H) := ⟨kB, nsB hns, ⟨mb, nsB hb, hbb⟩, mc, nsB n1, n2⟩
    have e0 : Env0 P w K mg (hidT t.heap H) callerA [] t H := ⟨rfl, hM, fun b o e => of_hidT e, Nat.le_of_eq (hidT_size _ _), trivial, (fun b hb => nomatch (show b ∈ ([] : List Addr) from hb)), hok, .of_eq hgn⟩
    have go := (F _ kB (nsB hns) tB).goes callerA [] t H ⟨[.ref a], []⟩ [.ref a] [.ref a] _ _ hr rfl e0 (bnd t (.ref a)) (.cons rfl .nil) (hsp H hN hH hS)
    refine codeAny_mono go fun r u h => ?_
    match r, h with
    | .error e, h => exact False.elim h
    | .ok .next, h => exact False.elim h
    | .ok .brk, h => exact False.elim h
    | .ok .cont, h => exact False.elim h
    | .ok (.ret z), h =>
      obtain ⟨v, H2, os, bare, un, hok2, rz, q⟩ := h
      have q2 : v = .bl true := q
      subst q2
      obtain rfl : z = Value.bool true := rz
      have stay : ∀ b o, b ∉ cs.map (·.2) → t.heap.get? b = some o → u.heap.get? b = some o := fun b o nb e => by
        cases q : H b with
        | none => exact un.keep b o e q (fun z => nomatch (show b ∈ ([] : List Addr) from z)) (by simp)
        | some y =>
          rcases hO b nb with z | ⟨ob, xs, z⟩
          · rw [q] at z; cases z
          · have i1 := (hok b _ z).1
            have i2 := (hok2 b _ (un.frzs b ob _ z)).1
            rw [e] at i1
            cases i1
            exact i2
      have grown : ∀ p ∈ cs, ∃ more : Array Value, u.heap.get? p.2 = some { cls := .none, data := .fields more } := fun p hp => by
        obtain ⟨more, z⟩ := un.tbls p.2 #[] (hH p hp)
        exact ⟨_, hok2 p.2 _ z⟩
      refine ⟨rfl, ⟨fun b o e => ?_, fun b o e => ?_⟩, os, bare⟩
      · by_cases hb : b ∈ cs.map (·.2)
        · obtain ⟨p, hp, rfl⟩ := List.mem_map.mp hb
          obtain ⟨more, hm⟩ := grown p hp
          rw [hT p hp] at e
          cases e
          exact .inr (.inl ⟨((hC p hp).tab (hT p hp)).isCodeTable, rfl, #[], more, rfl, by rw [Array.empty_append]; exact hm⟩)
        · exact .inl (stay b o hb e)
      · by_cases hb : b ∈ cs.map (·.2)
        · obtain ⟨p, hp, rfl⟩ := List.mem_map.mp hb
          obtain ⟨more, hm⟩ := grown p hp
          exact ⟨_, hm⟩
        · exact ⟨o, stay b o hb e⟩
  -- the tables are told, and the script, if it is not of the written part
  have two : ∀ (c : Bool) {b : Addr} {u : HO}, (if b ∈ cs.map (·.2) then some (HO.tbl #[]) else if c = true ∧ b = a then some (HO.frz { cls := .type "list", data := .seq vs.toArray } (.lst (ns.map V.int))) else none) = some u →
      (b ∈ cs.map (·.2) ∧ u = HO.tbl #[]) ∨ (c = true ∧ b = a ∧ u = HO.frz { cls := .type "list", data := .seq vs.toArray } (.lst (ns.map V.int))) := by
    intro c b u z
    by_cases q : b ∈ cs.map (·.2)
    · rw [if_pos q] at z
      cases z
      exact .inl ⟨q, rfl⟩
    · rw [if_neg q] at z
      by_cases q2 : c = true ∧ b = a
      · rw [if_pos q2] at z
        cases z
        exact .inr ⟨q2.1, q2.2, rfl⟩
      · rw [if_neg q2] at z
        cases z
  have fin : ∀ c : Bool, SqL K (fun b => if b ∈ cs.map (·.2) then some (HO.tbl #[]) else if c = true ∧ b = a then some (HO.frz { cls := .type "list", data := .seq vs.toArray } (.lst (ns.map V.int))) else none) a (ns.map V.int) → (c = true → K.lookup a = none) →
      codeAny (model P w) callerA (.call (.ref fa) ⟨[.ref a], []⟩) (fun r u => r = .ok (.ret (.bool true)) ∧ OldK t.heap u.heap ∧ u.os = t.os ∧ AllBare u.gens) t := fun c hS hc => by
    refine core _ (fun b xs z => ?_) (fun p hp => if_pos (inT p hp)) (fun b nb => ?_) hS (fun b u z => ?_) (fun b z => ?_) fun z => ?_
    · rcases two c z with ⟨_, y⟩ | ⟨_, _, y⟩ <;> cases y
    · rw [if_neg nb]
      by_cases q2 : c = true ∧ b = a
      · exact .inr ⟨_, _, if_pos q2⟩
      · exact .inl (if_neg q2)
    · rcases two c z with ⟨y, rfl⟩ | ⟨_, rfl, rfl⟩
      · exact tabs b y
      · exact ⟨ha, by rw [List.length_map]; exact hl, vs, _, rv, ha⟩
    · cases q : (if b ∈ cs.map (·.2) then some (HO.tbl #[]) else if c = true ∧ b = a then some (HO.frz { cls := .type "list", data := .seq vs.toArray } (.lst (ns.map V.int))) else none) with
      | none => exact absurd q z
      | some u =>
        rcases two c q with ⟨y, _⟩ | ⟨_, y, _⟩
        · exact .inr y
        · exact .inl y
    · cases c with
      | true => exact hc rfl
      | false =>
        refine absurd ?_ z
        rw [if_neg aT]
        rfl
  cases hk : K.lookup a with
  | some o =>
    have e := hK a o hk
    rw [ha] at e
    cases e
    have sz : vs.toArray.size ≤ sizeLine := by rw [List.size_toArray, lv]; exact hl
    exact fin false (.inr ⟨_, vs.toArray, _, hk, rfl, rfl, rfl, sz, by simpa using rv⟩) fun z => nomatch z
  | none => exact fin true (.inl (.inr ⟨{ cls := .type "list", data := .seq vs.toArray }, (if_neg aT).trans (if_pos ⟨rfl, rfl⟩)⟩)) fun _ => hk
/-- the same, for a law with tables -/
theorem walk_goT {l : PySem.W.OpenLaw} {n k : Nat} {q : Program} {loose : List Str} {XP : (Str → Option Value) → Heap → Prop} {YP : World → Heap → Prop} {d : DefRec} {x : Str} (hn : l.most = some n) (hn2 : n ≤ sizeLine) (hdf : d.params.defaults = []) (hr : Room k callerA)
    (F : ∀ (w : World) (mg : Str → Option Value) (fa : Addr) (h : Heap), YP w h → h.Ns mainGlobals mg → mg d.name = some (.ref fa) → ∃ (K : PySem.W.Frag) (fd : FuncData) (sp : Sp) (cs : List (Addr × Addr)), K.In h ∧ (∀ p ∈ cs, h.get? p.2 = some emptyO) ∧ (∀ p ∈ cs, K.lookup p.2 = none) ∧ (∀ p ∈ cs, PySem.W.CodeHd h p.1 p.2) ∧ (∀ (s : Shared) (u : Value), BindsTo s fd ⟨[u], []⟩ [(x, u)]) ∧
      (∀ (H : Hp) (a : Addr) (ns : List Int), ns.length ≤ n → NoLst H → (∀ p ∈ cs, H p.2 = some (.tbl #[])) → SqL K H a (ns.map V.int) → sp [.ref a] H (fun v _ => v = .bl true) fun _ _ _ => False) ∧ ∀ base : Heap, K.In base → base.Ns mainGlobals mg → (∀ p ∈ cs, LamX.TabB base mg p.1 p.2) → FnG l.prog w K mg base k fa fd [x] sp) :
    PySem.W.WalkO q loose XP YP l.row.toRowW d [] (fun f vs => PySem.call f vs) := by
  refine Att.attach_call hn hdf fun w s t mg mb fa o pm cd doc a vs ns G Y h1 h2 h3 hmg hobj hi hl hg => ?_
  obtain ⟨K, fd, sp, cs, KX, hT, nT, hC, bnd, hsp, hF⟩ := F w mg fa _ Y G.T.g hmg
  exact law_goT KX G.T.g G.T.b G.T.builtins G.T.nolimit hg G.T.bmain hT nT hC hobj hi (Nat.le_trans hl hn2) hr hF bnd fun H hN hH hS => hsp H a ns hl hN hH hS
end PV

/-! objects of own classes: calls of methods, making, where no guard stands -/
namespace PV
open PySem PySem.Spec PyProof.Rows L2
/-- the tree of a method's call -/
theorem meth_tree {o : Expr} {m : Str} {apos pos : Pos} {args : List Expr} {env : Env} (hbase : attributeBase o m env (eval o env) = eval o env)
    (hfew : ((backTo pos (starEach args env)).all (fun x => !x.1) && (backToKw pos (keywordEach [] env)).all (fun x => x.1.isSome)
      && decide (args.length + ([] : List Keyword).length + (if ([] : List Keyword).isEmpty then 0 else 1) < 30)) = true)
    (hline : (apos.endLine == pos.line) = true) :
    eval (.Call (.Attribute o m apos) args [] pos) env = (do
      let ov ← eval o env
      standAt apos.atName
      let (f, first) ← holding [ov] (getMethod ov m (do return (← importBound o env).getD true))
      callWith pos f first (backTo pos (starEach args env)) (backToKw pos (keywordEach [] env))) := by
  have hform : methodCallForm (args.length + ([] : List Keyword).length) (backTo pos (starEach args env)) (backToKw pos (keywordEach [] env)) = true := hfew
  have hpos : methodCallPos true o env apos pos = pure pos := by unfold methodCallPos; simp [hline]
  rw [arm_eval_Call, hbase]
  unfold methodCall calleeOf
  rw [hform]
  simp only [if_true, hpos]
  rfl
section
variable {X : Cx} {k : Nat} {f C : Addr} {fd : FuncData} {ps : List Str} {sp : Sp} {E : XK} {x m : Str} {p pos apos : Pos} {e o : Expr} {es : List Expr} {ta : TE} {t : TA}
theorem pe_goM (he : PE X o ta) (c : Cls X.K C) (hm : Meth X.K C m f) (F : FnG X.prog X.w X.K X.mg X.base k f fd ps sp) (hr : Room k X.A) (hgd : X.A.guards = some []) (hb : Binds X.K fd ps []) (ha : PA X (e :: es) t)
    (hst : starEach (e :: es) X.env = (false, eval e X.env) :: starEach es X.env) (hpl : (backTo pos (starEach es X.env)).any (·.1) = false) (hbase : attributeBase o m X.env (eval o X.env) = eval o X.env)
    (hfew : ((backTo pos (starEach (e :: es) X.env)).all (fun x => !x.1) && (backToKw pos (keywordEach [] X.env)).all (fun x => x.1.isSome)
      && decide ((e :: es).length + ([] : List Keyword).length + (if ([] : List Keyword).isEmpty then 0 else 1) < 30)) = true)
    (hline : (apos.endLine == pos.line) = true) : PE X (.Call (.Attribute o m apos) (e :: es) [] pos) (tMeth C m sp [] E ta t) := by
  refine ⟨fun pins s σ H Q I h => ?_⟩
  refine PySem.W.methodCall_KW (thn (he.run pins s σ H _ I h) fun u s1 ⟨y, H1, I1, ry, a, dx, fs, ey, ea, l, q⟩ => ?_) (meth_tree hbase hfew hline)
  subst ey
  obtain rfl : u = Value.ref a := ry
  refine getmeth_ok I1 ea c hm l ?_
  exact PySem.W.callWith_K (first := [.ref a]) (h₀ := X.base) I.ok.mod.kin hm.kp (thn (ha.run pos pins s1 σ H1 _ I1 q) fun us s2 ⟨vs, H2, I2, r, q2⟩ => ⟨I2.kIn, go_fn (us := .ref a :: us) (xs := .ref a :: vs) F hr hgd hb .nil I2 (.cons rfl r) q2⟩) hst hpl
theorem pe_goM0 (he : PE X o ta) (c : Cls X.K C) (hm : Meth X.K C m f) (F : FnG X.prog X.w X.K X.mg X.base k f fd ps sp) (hr : Room k X.A) (hgd : X.A.guards = some []) (hb : Binds X.K fd ps [])
    (hbase : attributeBase o m X.env (eval o X.env) = eval o X.env) (hline : (apos.endLine == pos.line) = true) : PE X (.Call (.Attribute o m apos) [] [] pos) (tMeth C m sp [] E ta tNil) := by
  refine ⟨fun pins s σ H Q I h => ?_⟩
  refine PySem.W.methodCall_KW (thn (he.run pins s σ H _ I h) fun u s1 ⟨y, H1, I1, ry, a, dx, fs, ey, ea, l, q⟩ => ?_) (meth_tree hbase rfl hline)
  subst ey
  obtain rfl : u = Value.ref a := ry
  refine getmeth_ok I1 ea c hm l ?_
  exact PySem.W.callWith_K0 (first := [.ref a]) I1.kIn hm.kp (go_fn (us := [.ref a]) (xs := [.ref a]) F hr hgd hb .nil I1 (.cons rfl .nil) q)
theorem go_make {pins : List (Addr × Obj)} {σ : L2.St} {H : Hp} {s : Shared} {Q : VK} {us : List Value} {vs : List V} (M : Mk X.K C f) (F : FnG X.prog X.w X.K X.mg X.base k f fd ps sp) (hr : Room (k + 1) X.A) (hgd : X.A.guards = some []) (hb : Binds X.K fd ps [])
    (I : Inv X pins σ H s) (r : Vals vs us)
    (h : ∀ x dx, H x = none → H dx = none → dx ≠ x → sp (.ref x :: vs) (upd (upd H dx (.own x)) x (.ins C dx [])) (fun v H2 => v = .non ∧ Q (.ref x) H2) E) :
    wpAny (model X.prog X.w) X.A (call (.ref C) us) (EP X pins σ Q) X.xe s := by
  have hq := h (s.heap.objs.size + 1) s.heap.objs.size (I.hok.fresh (Nat.le_succ _)) (I.hok.fresh (Nat.le_refl _)) (Nat.ne_of_lt (Nat.lt_succ_self _))
  have I2 := Inv.made (C := C) I
  have r2 : Vals (V.ref (s.heap.objs.size + 1) :: vs) (Value.ref (s.heap.objs.size + 1) :: us) := .cons rfl r
  have hl : (Value.ref (s.heap.objs.size + 1) :: us ++ []).length = ps.length := by
    have e := r2.length
    rw [F.many _ _ _ _ hq] at e
    rw [List.append_nil]
    exact e.symm
  have bd := hb _ (Value.ref (s.heap.objs.size + 1) :: us) I2.kIn hl
  rw [List.append_nil] at bd
  have hgd2 : (X.A.under (.builtin "type.__call__" ⟨.ref C :: us, []⟩)).guards = some [] := by first | exact hgd | (simpa [Around.under] using hgd)
  refine wpAny_call (make_map (f := f) I.kIn M.makes M.init (beq_iff_eq.mp M.fn) (codeAny_mono (F.goes _ X.stack _ _ ⟨Value.ref (s.heap.objs.size + 1) :: us, []⟩ (Value.ref (s.heap.objs.size + 1) :: us) _ _ E (hr.make C us [])
    hgd2 (I2.env0.make C us []) bd r2 hq) fun rr s' hq' => ?_))
  match rr, hq' with
  | .ok (.ret u), hq' =>
    obtain ⟨v, H', I3, rv, ev, q3⟩ := I2.after hq'
    subst ev
    exact ⟨rv, ⟨V.ref (s.heap.objs.size + 1), H', I3, rfl, q3⟩⟩
  | .ok .next, hq' => exact False.elim hq'
  | .ok .brk, hq' => exact False.elim hq'
  | .ok .cont, hq' => exact False.elim hq'
  | .error _, hq' => exact False.elim hq'
def tMakeG (C : Addr) (sp : Sp) (E : XK) (t : TA) : TE := fun σ H Q => t σ H fun vs H1 => ∀ x dx, H1 x = none → H1 dx = none → dx ≠ x →
  sp (.ref x :: vs) (upd (upd H1 dx (.own x)) x (.ins C dx [])) (fun v H2 => v = .non ∧ Q (.ref x) H2) E
theorem pe_goNew (M : Mk X.K C f) (F : FnG X.prog X.w X.K X.mg X.base k f fd ps sp) (hr : Room (k + 1) X.A) (hgd : X.A.guards = some []) (hg : Gl X x) (hm : X.mg x = some (.ref C)) (hb : Binds X.K fd ps []) (ha : PA X (e :: es) t)
    (hdb : (x == ("__debug__" : Str)) = false) (he : starEach (e :: es) X.env = (false, eval e X.env) :: starEach es X.env) (hpl : (backTo pos (starEach es X.env)).any (·.1) = false) :
    PE X (.Call (.Name x p) (e :: es) [] pos) (tMakeG C sp E t) := ⟨fun pins s σ H Q I h =>
  wpAny_Call_Name_kw (ld_glob I hg hm (PySem.W.callWith_K (h₀ := X.base) I.ok.mod.kin M.kp (thn (ha.run pos pins s σ H _ I h) fun us s1 ⟨vs, H1, I1, r, q⟩ => ⟨I1.kIn, go_make M F hr hgd hb I1 r q⟩) he hpl) hdb)⟩
theorem pe_goNew0 (M : Mk X.K C f) (F : FnG X.prog X.w X.K X.mg X.base k f fd ps sp) (hr : Room (k + 1) X.A) (hgd : X.A.guards = some []) (hg : Gl X x) (hm : X.mg x = some (.ref C)) (hb : Binds X.K fd ps [])
    (hdb : (x == ("__debug__" : Str)) = false) : PE X (.Call (.Name x p) [] [] pos) (tMakeG C sp E tNil) := ⟨fun pins s σ H Q I h =>
  wpAny_Call_Name_kw (ld_glob I hg hm (PySem.W.callWith_K0 I.kIn M.kp (go_make (us := []) M F hr hgd hb I .nil h)) hdb)⟩
end
end PV

/-! own rule: sorted(a tuple of pairs of whole numbers) -/
namespace PV
open PySem PySem.Spec PyProof.Rows L2
def encII (b : Int × Int) : PyData := .tuple [.int b.1, .int b.2]
section
variable {P : Program} {w : World} {A : Around} {E : Value → Shared → Prop} {s : Shared}
/-- a tuple's items gathered into a list: the heap only grows -/
theorem gather_tup {Q : List Value → Shared → Prop} {a : Addr} {o : Obj} {xs : Array Value} {n : Nat} (ho : s.heap.get? a = some o) (hc : o.cls = .type "tuple") (hd : o.data = .seq xs n) (hz : xs.size ≤ sizeLine)
    (q : ∀ h, s.heap.objs.size ≤ h.objs.size → (∀ b u, s.heap.get? b = some u → h.get? b = some u) → Q xs.toList { s with heap := h }) : wpAny (model P w) A (collect (.ref a)) Q E s := by
  have new : (s.heap.push { cls := .type "list", data := .seq ([] : List Value).toArray }).get? s.heap.objs.size = some { cls := .type "list", data := .seq #[] 0 } := Heap.get?_push_size _ rfl
  have full := Heap.get?_update_self (Obj.mapSeq (· ++ xs)) new rfl
  have last := q ((s.heap.push { cls := .type "list", data := .seq ([] : List Value).toArray }).update s.heap.objs.size (Obj.mapSeq (· ++ xs))) (by rw [Heap.size_update, Heap.size_push]; omega)
    fun b u e => (Heap.get?_update_other _ _ (Nat.ne_of_gt (Heap.lt_size e))).trans (Heap.get?_push_of_some _ e)
  have told : wpAny (model P w) A (load s.heap.objs.size >>= fun r => match r.data with
      | Data.seq ys _ => pure ys.toList
      | _ => unsupported "internal:collect") Q E { s with heap := (s.heap.push { cls := .type "list", data := .seq ([] : List Value).toArray }).update s.heap.objs.size (Obj.mapSeq (· ++ xs)) } := by
    refine wpAny_bind (wpAny_load full (wpAny_pure ?_))
    show Q ((#[] : Array Value) ++ xs).toList _
    rw [show ((#[] : Array Value) ++ xs).toList = xs.toList by simp]
    exact last
  unfold collect
  refine wpAny_bind (wpAny_runValue (codeAny_builtin F.entry_proto_collect ?_))
  rw [Around.under_plainId F.plain_proto_collect _]
  refine wpAny_bind (m := newList []) (wpAny_newObj_type (wpAny_pure ⟨plainId_quiet F.plain_list_iadd _, codeAny_builtin F.entry_list_iadd ?_⟩))
  rw [Around.under_plainId F.plain_list_iadd _]
  refine wpAny_mono (wpAny_extend_seq (hsz := hz) (A := A) (R := fun r s2 => r = .ok (.ret (.ref s.heap.objs.size)) ∧ s2 = { s with heap := (s.heap.push { cls := .type "list", data := .seq ([] : List Value).toArray }).update s.heap.objs.size (Obj.mapSeq (· ++ xs)) })
    (s := { s with heap := s.heap.push { cls := .type "list", data := .seq ([] : List Value).toArray } }) _ a _ 0 (.inr rfl) new (Heap.get?_push_of_some _ ho) hc hd ⟨rfl, rfl⟩) (fun fin s2 x => ?_) (fun _ _ x => absurd x.1 (by simp))
  cases fin with
  | done f => obtain ⟨e, rfl⟩ := x; cases e; exact told
  | again c2 => exact ⟨x.1, codeAny_mono x.2 fun r s3 y => by obtain ⟨rfl, rfl⟩ := y; exact told⟩
theorem sorted_tupII {a : Addr} {its : List Value} {ps : List (Int × Int)} {R : Value → Int × Int → Prop} {Q : Value → Shared → Prop} (hl : IsTup s.heap a its.toArray) (e : PySem.W.EachIs R its ps) (er : PySem.W.EachIs (fun v b => Reads s.heap v (encII b) []) its ps) (hL : ps.length ≤ sizeLine) (hu : A.units + 64 < cLine)
    (hQ : ∀ h' p (out : List Value) c, (∀ b o, s.heap.get? b = some o → h'.get? b = some o) → s.heap.objs.size ≤ p → h'.get? p = some (seqObj "list" out.toArray c) → PySem.W.EachIs R out (ps.mergeSort (PySem.W.dataLe false encII)) → Q (.ref p) { s with heap := h' }) :
    wpAny (model P w) A (call (.builtin "sorted") [.ref a]) Q E s := by
  obtain ⟨o, ho, hc, n, hd⟩ := id hl
  have hlen : its.length = ps.length := by first | exact e.length | exact e.length.symm
  refine Calls.call_function_entry PyProof.Rows.kind_sorted PyProof.Rows.plain_sorted PyProof.Rows.entry_sorted (PyProof.Rows.args_sorted1 _) ?_
  unfold Builtin.«sorted»
  refine wpAny_bind (m := checkCount "sorted" 1 1 _) (wpAny_pure ?_)
  refine wpAny_bind (gather_tup (A := A.in1) ho hc hd (by simpa [hlen] using hL) fun h1 hgeo hk => ?_)
  refine wpAny_bind (wpAny_newList ?_ (by simpa [hlen] using hL))
  have hoL : (h1.push (seqObj "list" its.toArray 0)).get? h1.objs.size = some (seqObj "list" its.toArray 0) := Heap.get?_push_size _ rfl
  have k1 : ∀ b o, s.heap.get? b = some o → (h1.push (seqObj "list" its.toArray 0)).get? b = some o := fun b o q => Heap.get?_push_of_some _ (hk b o q)
  have er' : PySem.W.EachIs (fun v b => ∃ as, Reads (h1.push (seqObj "list" its.toArray 0)) v (encII b) as ∧ h1.objs.size ∉ as) its ps := er.mono fun v b r => ⟨[], PyProof.Rows.Reads.keeps k1 r, by simp⟩
  refine wpAny_bind (wpAny_holding (PySem.W.list_sort_data (s := { s with heap := h1.push (seqObj "list" its.toArray 0) }) (A := A.in1) (bs := ps) (enc := encII) (R := R) (n := 0) hoL e er' (PySem.W.AllAlike.of fun b b' => by simp [encII, PySem.W.alike, PySem.W.alikeAll]) (PySem.W.Sortable.tuples fun b => ⟨_, _, rfl⟩) hL (fun b _ => by
    have : (encII b).depth ≤ 2 := by simp [encII, PyData.depth, PyData.depthAll]
    show A.in1.units + 1 + _ < _
    have : A.in1.units = A.units + 1 := rfl
    omega) fun out hol eo => ?_))
  obtain ⟨c, hc2⟩ := PyProof.Rows.sortedHeap_at (vs := its) (out := out.toArray) hoL
  refine wpAny_pure ⟨_, rfl, hQ _ h1.objs.size out c (fun b u q => ?_) hgeo hc2 eo⟩
  have q2 := hk b u q
  have hlt := Heap.lt_size q2
  rw [PyProof.Rows.sortedHeap_old (Nat.ne_of_lt hlt) (by rw [size_push']; exact Nat.lt_succ_of_lt hlt)]
  exact Heap.get?_push_of_some _ q2
end
section
variable {X : Cx}
theorem each_refs {T : Addr → Int × Int → Prop} : ∀ {as : List Addr} {ps : List (Int × Int)}, Paired T as ps → PySem.W.EachIs (fun v b => ∃ p, v = Value.ref p ∧ T p b) (as.map Value.ref) ps
  | _, _, .nil => .nil
  | _, _, .cons h t => .cons ⟨_, rfl, h⟩ (each_refs t)
theorem refs_each {T : Addr → Int × Int → Prop} : ∀ {out : List Value} {ps : List (Int × Int)}, PySem.W.EachIs (fun v b => ∃ p, v = Value.ref p ∧ T p b) out ps → ∃ bs : List Addr, out = bs.map Value.ref ∧ Paired T bs ps
  | _, _, .nil => ⟨[], rfl, .nil⟩
  | _, _, .cons h t => by
    obtain ⟨p, rfl, h⟩ := h
    obtain ⟨bs, rfl, g⟩ := refs_each t
    exact ⟨p :: bs, rfl, .cons h g⟩
theorem vals_refs : ∀ bs : List Addr, Vals (bs.map V.ref) (bs.map Value.ref)
  | [] => .nil
  | b :: bs => .cons rfl (vals_refs bs)
theorem paired_len {α β : Type} {T : α → β → Prop} : ∀ {as : List α} {bs : List β}, Paired T as bs → as.length = bs.length
  | _, _, .nil => rfl
  | _, _, .cons _ t => by rw [List.length_cons, List.length_cons, paired_len t]
theorem lex_sorted (ps : List (Int × Int)) : (ps.mergeSort (PySem.W.dataLe false encII)).Pairwise lexII := by
  have e : PySem.W.dataLe false encII = fun p q => decide (p.1 < q.1 ∨ (p.1 = q.1 ∧ p.2 ≤ q.2)) := PySem.W.dataLe_ii (β := Int × Int) (fun b => b.1) (fun b => b.2)
  rw [e]
  have := List.pairwise_mergeSort (le := fun p q : Int × Int => decide (p.1 < q.1 ∨ (p.1 = q.1 ∧ p.2 ≤ q.2))) (fun a b c h1 h2 => by simp only [decide_eq_true_eq] at h1 h2 ⊢; omega) (fun a b => by simp only [Bool.or_eq_true, decide_eq_true_eq]; omega) ps
  exact this.imp fun h => by simpa [lexII] using h
theorem cr_sortedTII (hu : X.A.units + 65 < cLine) : CallR X (.builtin "sorted") (fun xs H Q => ∃ (a : Addr) (as : List Addr) (ps : List (Int × Int)), xs = [.ref a] ∧ SqT X.K H a (as.map V.ref) ∧ Paired (fun p q => SqT X.K H p [V.int q.1, V.int q.2]) as ps ∧
    ∀ (bs : List Addr) (ms : List (Int × Int)) (l : Addr), ms.Perm ps → ms.Pairwise lexII → Paired (fun p q => SqT X.K H p [V.int q.1, V.int q.2]) bs ms → H l = none → Q (.ref l) (upd H l (.lst (bs.map V.ref)))) := by
  intro pins s σ H xs us Q I r q
  obtain ⟨a, as, ps, rfl, hq, hp, q⟩ := q
  obtain ⟨u, rfl, ru⟩ := vals1 r
  obtain rfl : u = Value.ref a := ru
  obtain ⟨its, rv, pl, hz⟩ := I.tuple hq
  obtain rfl := refs_at rv
  have er : PySem.W.EachIs (fun v b => Reads s.heap v (encII b) []) (as.map Value.ref) ps := by
    refine (each_refs hp).mono fun v b h => ?_
    obtain ⟨p, rfl, h⟩ := h
    obtain ⟨its, rv, pl, _⟩ := I.tuple h
    obtain ⟨u1, u2, rfl⟩ : ∃ t1 t2, its = [.int b.1 t1, .int b.2 t2] := by
      cases rv with
      | cons h1 rv => cases rv with
        | cons h2 rv => cases rv; obtain ⟨t1, rfl⟩ := h1; obtain ⟨t2, rfl⟩ := h2; exact ⟨_, _, rfl⟩
    obtain ⟨o, ho, hc, n, hd⟩ := pl
    exact .tuple ho hc hd (.cons (.int _ _) (.cons (.int _ _) .nil))
  refine sorted_tupII pl (each_refs hp) er ?_ (by omega) fun h' p out c k hp2 hg eo => ?_
  · have := paired_len hp
    rw [List.length_map] at hz
    omega
  · obtain ⟨bs, rfl, hb⟩ := refs_each eo
    have hl : (bs.map V.ref).length ≤ sizeLine := by
      have h1 := paired_len hb
      have h2 := paired_len hp
      rw [List.length_mergeSort] at h1
      rw [List.length_map] at hz ⊢
      omega
    exact ⟨.ref p, upd H p (.lst (bs.map V.ref)), I.laid (t' := s.toks) k hp2 (show ObjOk X.prog X.w _ _ _ (.lst (bs.map V.ref)) from ⟨hl, bs.map Value.ref, c, vals_refs bs, hg⟩), rfl, q bs _ p (List.mergeSort_perm _ _) (lex_sorted ps) hb (I.hok.fresh hp2)⟩
end
end PV

/-! enumerate over a tuple -/
namespace PV
open PySem PySem.Spec PyProof.Rows L2
theorem meets_enumT (t : Addr) (o : Obj) (items : Array Value) (ho : o.cls = .type "tuple" ∧ ∃ n, o.data = .seq items n) :
    Meets (Builtin.«enumerate.__new__» ⟨[.type "enumerate", .ref t], []⟩) (fun _ R s => s.heap.get? t = some o ∧
      R (.ok (.ret (.ref (s.heap.objs.size + 1))))
        { s with heap := (s.heap.push { cls := .type "tuple_iterator", data := .fields #[.ref t, .int 0 0] }).push { cls := .type "enumerate", data := .fields #[.none, .bool false, .ref s.heap.objs.size, rawInt 0, .none, .none] } }) :=
  .of_wp fun prog w A R s h => by
    obtain ⟨hp, g, d, tk, os⟩ := s
    obtain ⟨hl, h⟩ := h
    obtain ⟨hc, n, hd⟩ := ho
    have hsub := sub_enumerate
    have hT : Heap.IsTuple (Shared.heap ⟨hp, g, d, tk, os⟩) t items := ⟨o, hl, hc, n, hd⟩
    have hz : (hp.push { cls := .type "tuple_iterator", data := .fields #[.ref t, .int 0 0] }).objs.size = hp.objs.size + 1 := Heap.size_push ..
    rw [show (Shared.heap ⟨hp, g, d, tk, os⟩) = hp from rfl, ← hz] at h
    obtain ⟨c', dct, dt, sl⟩ := o
    cases hc
    cases hd
    wp_walk using wpAny_loadPart' hl
    refine wpAny_stack_any fun st => wpAny_pure ?_
    split
    · rename_i c _ _ _ _ _
      cases (c == Value.type "enumerate")
      all_goals
        wp_walk using wpAny_loadPart' hl, wpAny_pyIter_tuple hT
        exact ⟨_, rfl, h⟩
    · wp_walk using wpAny_loadPart' hl, wpAny_pyIter_tuple hT
      exact ⟨_, rfl, h⟩
theorem call_enumT {prog : Program} {w : World} {A : Around} {E : Value → Shared → Prop} {s : Shared} {t : Addr} {items : Array Value} {Q : Value → Shared → Prop} (hT : s.heap.IsTuple t items)
    (h : ∀ h', IsEnum h' (s.heap.objs.size + 1) s.heap.objs.size 0 .none → h'.IsTupleIter s.heap.objs.size t 0 → (∀ b o, s.heap.get? b = some o → h'.get? b = some o) → Q (.ref (s.heap.objs.size + 1)) { s with heap := h' }) :
    wpAny (model prog w) A (call (.type "enumerate") [.ref t]) Q E s := by
  obtain ⟨o, ho, hc, hd⟩ := hT
  refine callType_new F.called_enumerate (by decide) (F.typeCall_enumerate_1 _) (F.newCall_enumerate_1 _) (fun obj => F.args_object_init_2 obj _) F.entry_enumerate_new (meets_enumT t o items ⟨hc, hd⟩) ⟨ho, ?_⟩
  have size1 : (s.heap.push { cls := .type "tuple_iterator", data := .fields #[.ref t, .int 0 0] }).objs.size = s.heap.objs.size + 1 := Heap.size_push ..
  have isE : IsEnum ((s.heap.push { cls := .type "tuple_iterator", data := .fields #[.ref t, .int 0 0] }).push
      { cls := .type "enumerate", data := .fields #[.none, .bool false, .ref s.heap.objs.size, rawInt 0, .none, .none] }) (s.heap.objs.size + 1) s.heap.objs.size 0 .none := by
    rw [← size1]
    exact Heap.get?_push_size _ rfl
  exact ⟨⟨_, isE, rfl⟩, h _ isE ⟨_, Heap.get?_push_of_some _ (Heap.get?_push_size _ rfl), rfl, rfl⟩ fun b o x => Heap.get?_push_of_some _ (Heap.get?_push_of_some _ x)⟩
/-- the tuple at a, each item in a new pair with its number -/
def IteT (K : PySem.W.Frag) (a : Addr) : It :=
  ⟨fun i H => ∃ (xs : List V) (x : V), SqT K H a xs ∧ xs[i]? = some x, fun i H v H' => ∃ T x, v = .ref T ∧ H T = none ∧ H' = upd H T (.tup [.int (i : Nat), x]) ∧ ∀ xs, SqT K H a xs → xs[i]? = some x, fun i H => ∃ xs : List V, SqT K H a xs ∧ xs.length = i⟩
theorem apartT {h : Heap} {e it a : Addr} {i : Nat} {k : Int} {old : Value} {items : Array Value} (he : IsEnum h e it k old) (hi : h.IsTupleIter it a i) (ht : h.IsTuple a items) : a ≠ it ∧ e ≠ a := by
  obtain ⟨o1, g1, c1, d1⟩ := hi
  obtain ⟨o2, g2, c2, d2⟩ := ht
  refine ⟨fun z => ?_, fun z => ?_⟩
  · subst z
    rw [g1] at g2
    cases g2
    rw [c1] at c2
    exact absurd c2 (by decide)
  · subst z
    have g3 : h.get? e = some _ := he
    rw [g2] at g3
    cases g3
    exact absurd (show Value.type "enumerate" = Value.type "tuple" from c2) (by decide)
theorem turn_enumT {P : Program} {w : World} {K : PySem.W.Frag} {elts : List Expr} {kk : Nat} {tpos : Pos} (a e it : Addr) :
    Turn P w K (.Tuple elts kk tpos) (IteT K a) [e, it] e (fun i h => (∃ old, IsEnum h e it ((i : Nat) : Int) old) ∧ h.IsTupleIter it a i ∧ e ≠ it) where
  mem := by simp
  obj := fun i h st b hb => by
    obtain ⟨⟨old, he⟩, ⟨o, ho, hc, hd⟩, _⟩ := st
    have hb2 : b = e ∨ b = it := by simpa using hb
    rcases hb2 with rfl | rfl
    · exact ⟨_, he, fun v q => nomatch q⟩
    · exact ⟨o, ho, fun v q => by rw [hd] at q; cases q⟩
  keep := fun i h h' st k => let ⟨⟨old, he⟩, hi, hne⟩ := st; ⟨⟨old, k e (by simp) _ he⟩, hi.at fun o q => k it (by simp) o q, hne⟩
  item := by
    intro X hP hw hK hc i pins s σ H E I hf st hg
    subst hP hw hK
    obtain ⟨⟨old, he⟩, hit, hne⟩ := st
    obtain ⟨xs, x, hq, hx⟩ := hg
    obtain ⟨its, rv, p, hz⟩ := I.tuple hq
    obtain ⟨u, hu, ru⟩ := rv.get hx
    have le : e < s.heap.objs.size := Heap.lt_size he
    have li : it < s.heap.objs.size := by obtain ⟨_, q, _⟩ := hit; exact Heap.lt_size q
    obtain ⟨n1, n2⟩ := apartT he hit p
    have lt : i < its.toArray.size := by
      have := (List.getElem?_eq_some_iff.mp hu).1
      simpa using this
    refine wpAny_pyNext_enum_itemD (Draws.tuple (A := X.A.in1) (I.ok.hd hc) it a n1 its.toArray) he ⟨hit, p⟩ lt hne (by simp [hne, n2]) fun y h' tk hy ho hst hT hsz hk => ?_
    have yu : y = u := by
      have hy2 : its.toArray[i]? = some y := hy
      rw [List.getElem?_toArray, hu] at hy2
      exact (Option.some.inj hy2).symm
    subst yu
    refine ⟨_, rfl, wpAny_letOwnedTupleGo_enum (s := { s with heap := h', toks := tk + 1 }) ho fun h'' he2 sb => ?_⟩
    have pair : h''.get? s.heap.objs.size = some { cls := .type "tuple", data := .seq #[.int i tk, y] } := (sb.2 _ (Nat.ne_of_gt le)).trans hT
    have new : ObjOk X.prog X.w (upd H s.heap.objs.size (.tup [.int (i : Nat), x])) h'' s.heap.objs.size (.tup [.int (i : Nat), x]) :=
      ⟨by show 2 ≤ sizeLine; decide, [.int i tk, y], .cons ⟨_, rfl⟩ (.cons ru .nil), ⟨_, pair, rfl, _, rfl⟩⟩
    have J : Inv X pins σ (upd H s.heap.objs.size (.tup [.int (i : Nat), x])) { s with heap := h'', toks := tk + 1 } :=
      I.turnedNew (ch := [e, it]) (fun b ob hb q => (sb.2 b (fun z => hb (by simp [z]))).trans (hk b ob (fun z => hb (by simp [z])) (fun z => hb (by simp [z])) q)) hf (Nat.le_refl _) new
    refine ⟨.ref s.heap.objs.size, _, J, rfl, ⟨_, x, rfl, I.hok.fresh (Nat.le_refl _), rfl, fun ys hys => ?_⟩, ⟨⟨y, ?_⟩, hst.1.at fun o q => (sb.2 it (Ne.symm hne)).trans q, hne⟩, fun b hb => ?_⟩
    · rw [I.tuple_inj hys hq]; exact hx
    · have e1 : ((i + 1 : Nat) : Int) = (i : Int) + 1 := by omega
      rw [e1]; exact he2
    · have hb2 : b = e ∨ b = it := by simpa using hb
      have hlt : b < s.heap.objs.size := by
        rcases hb2 with rfl | rfl
        · exact le
        · exact li
      rw [upd_ne (Nat.ne_of_lt hlt)]
      exact (hf b hb).1
  done := by
    intro X hP hw hK hc i pins s σ H E I hf st hg
    subst hP hw hK
    obtain ⟨⟨old, he⟩, hit, hne⟩ := st
    obtain ⟨xs, hq, hx⟩ := hg
    obtain ⟨its, rv, p, hz⟩ := I.tuple hq
    obtain ⟨n1, n2⟩ := apartT he hit p
    obtain ⟨f0, f1, f2, f3, f4, f5⟩ := hf it (by simp)
    have hn : its.toArray.size = i := by
      rw [List.size_toArray, ← rv.length]
      exact hx
    refine wpAny_pyNext_enum_endD (Draws.tuple (A := X.A.in1) (I.ok.hd hc) it a n1 its.toArray) he ⟨by rw [hn]; exact hit, p⟩ fun h' eb => ?_
    exact ⟨rfl, I.turned (t' := s.toks) (fun b o hb q => eb b o hb q) f0 f1 f3 f4 f5⟩
  self := fun A i s Q E st h => let ⟨⟨_, he⟩, _⟩ := st; wpAny_pyIter_enum he h
/-- enumerate(e), a list or a tuple -/
theorem pi_enumA {X : Cx} {e : Expr} {ta : TA} {p pos tpos : Pos} {elts : List Expr} {kk : Nat} (hg : Gl X "enumerate") (hm : X.mg "enumerate" = none) (ha : PA X [e] ta) (hs : starEach [e] X.env = [(false, eval e X.env)] := by rfl) :
    PI X (.Tuple elts kk tpos) (.Call (.Name "enumerate" p) [e] [] pos) (fun σ H R => ta σ H fun vs H1 => ∃ a, vs = [.ref a] ∧ ((∃ xs, SqL X.K H1 a xs ∧ R (Ite X.K a) H1) ∨ ∃ xs, SqT X.K H1 a xs ∧ R (IteT X.K a) H1)) := by
  refine ⟨fun pins s σ H R I h => ?_⟩
  refine Call_ (ld_blt I hg hm boot_enumerate (PyProof.Rows.callWith_type1 (thn (ha.run pos pins s σ H _ I h) fun us s1 ⟨vs, H1, I1, r1, q1⟩ => ?_) hs rfl))
  obtain ⟨a, ex, q⟩ := q1
  subst ex
  obtain rfl := Vals.ref1 r1
  have two : ∀ b ∈ [s1.heap.objs.size + 1, s1.heap.objs.size], FpOk X pins H1 b := fun b hb => by
    have hb2 : b = s1.heap.objs.size + 1 ∨ b = s1.heap.objs.size := by simpa using hb
    have hle : s1.heap.objs.size ≤ b := by omega
    exact I1.fpOk hle (I1.hok.fresh hle)
  rcases q with ⟨xs, hq, q⟩ | ⟨xs, hq, q⟩
  · obtain ⟨its, rv, pl, hz⟩ := I1.list hq
    exact call_enumerate_list pl.isList fun h' he hit hsz hk => wpAny_pyIter_enum he
      ⟨s1.heap.objs.size + 1, [s1.heap.objs.size + 1, s1.heap.objs.size], _, _, H1, rfl, I1.kept (t' := s1.toks) hk, turn_enum a (s1.heap.objs.size + 1) s1.heap.objs.size, ⟨⟨.none, he⟩, hit, Nat.succ_ne_self _⟩, two, q⟩
  · obtain ⟨its, rv, pl, hz⟩ := I1.tuple hq
    exact call_enumT pl fun h' he hit hk => wpAny_pyIter_enum he
      ⟨s1.heap.objs.size + 1, [s1.heap.objs.size + 1, s1.heap.objs.size], _, _, H1, rfl, I1.kept (t' := s1.toks) hk, turn_enumT a (s1.heap.objs.size + 1) s1.heap.objs.size, ⟨⟨.none, he⟩, hit, Nat.succ_ne_self _⟩, two, q⟩
end PV

/-! own rules: dicts whose keys are nested tuples -/
namespace PV
open PySem PySem.Spec PyProof.Rows L2

/-! keys -/
mutual
theorem nkD_ok : ∀ (n : Nat) (v : Vl) (k : NestedKey), nkD n v = some k → keyVl k = v ∧ k.depth ≤ n ∧ ∀ w w' : World, k.hash w = k.hash w'
  | 0, v, k, e => by
    cases v <;> simp only [nkD, Option.some.injEq] at e <;> first | cases e | skip
    · exact ⟨by simp [keyVl], by simp [NestedKey.depth], fun _ _ => by simp [NestedKey.hash]⟩
    · exact ⟨by simp [keyVl], by simp [NestedKey.depth], fun _ _ => by simp [NestedKey.hash]⟩
  | n + 1, v, k, e => by
    cases v with
    | none =>
      simp only [nkD, Option.some.injEq] at e
      subst e
      exact ⟨by simp [keyVl], by simp [NestedKey.depth], fun _ _ => by simp [NestedKey.hash]⟩
    | int i =>
      simp only [nkD, Option.some.injEq] at e
      subst e
      exact ⟨by simp [keyVl], by simp [NestedKey.depth], fun _ _ => by simp [NestedKey.hash]⟩
    | tup vs =>
      simp only [nkD] at e
      obtain ⟨ks, h, rfl⟩ := Option.map_eq_some_iff.mp e
      obtain ⟨h1, h2, h3⟩ := nkDs_ok n vs ks h
      refine ⟨by simp only [keyVl, h1], by simp only [NestedKey.depth]; omega, fun w w' => ?_⟩
      simp only [NestedKey.hash, h3 w w']
    | bool b => simp only [nkD] at e; cases e
    | str s => simp only [nkD] at e; cases e
    | ref i => simp only [nkD] at e; cases e
theorem nkDs_ok : ∀ (n : Nat) (vs : List Vl) (ks : List NestedKey), optAll (nkD n) vs = some ks → keyVls ks = vs ∧ NestedKey.depthAll ks ≤ n ∧ ∀ w w' : World, NestedKey.hashes w ks = NestedKey.hashes w' ks
  | n, [], ks, e => by
    simp only [optAll, Option.some.injEq] at e
    subst e
    exact ⟨by simp [keyVls], by simp [NestedKey.depthAll], fun _ _ => rfl⟩
  | n, v :: vs, ks, e => by
    simp only [optAll] at e
    cases h1 : nkD n v with
    | none => simp [h1] at e
    | some k =>
      cases h2 : optAll (nkD n) vs with
      | none => simp [h1, h2] at e
      | some ls =>
        simp only [h1, h2, Option.some.injEq] at e
        subst e
        obtain ⟨a1, a2, a3⟩ := nkD_ok n v k h1
        obtain ⟨b1, b2, b3⟩ := nkDs_ok n vs ls h2
        refine ⟨by simp only [keyVls, a1, b1], by simp only [NestedKey.depthAll]; omega, fun w w' => ?_⟩
        simp only [NestedKey.hashes, a3 w w', b3 w w']
end
theorem nkOf_ok {v : Vl} {k : NestedKey} (e : nkOf v = some k) : keyVl k = v ∧ k.depth ≤ 8 ∧ (∀ w w' : World, k.hash w = k.hash w') ∧ nkOf (keyVl k) = some k := by
  cases v with
  | tup vs =>
    obtain ⟨h1, h2, h3⟩ := nkD_ok 6 (.tup vs) k e
    exact ⟨h1, by omega, h3, by rw [h1]; exact e⟩
  | _ => cases e
section
variable {X : Cx} {pins : List (Addr × Obj)} {σ : L2.St} {H : Hp} {s : Shared} {ρ : List Addr}
mutual
theorem nk_is (I : Inv X pins σ H s) : ∀ (n : Nat) (v : Vl) (k : NestedKey) (x : V) (u : Value), nkD n v = some k → Rep X.K ρ H v x → RelV x u → NestedIs s.heap k u
  | 0, v, k, x, u, e, r, q => by
    cases v <;> simp only [nkD, Option.some.injEq] at e <;> first | cases e | skip
    · cases r; obtain rfl : u = Value.none := q; exact .none
    · cases r; obtain ⟨t, rfl⟩ := q; exact .int _ _
  | n + 1, v, k, x, u, e, r, q => by
    cases v with
    | none =>
      simp only [nkD, Option.some.injEq] at e
      subst e
      cases r; obtain rfl : u = Value.none := q; exact .none
    | int i =>
      simp only [nkD, Option.some.injEq] at e
      subst e
      cases r; obtain ⟨t, rfl⟩ := q; exact .int _ _
    | tup vs =>
      simp only [nkD] at e
      obtain ⟨ks, h, rfl⟩ := Option.map_eq_some_iff.mp e
      cases r with
      | tup hq rs =>
        obtain ⟨its, rv, ⟨o, ho, hc, m, hd⟩, _⟩ := I.tuple hq
        obtain rfl := (show u = Value.ref _ from q)
        exact .tup ho hc hd (nk_iss I n vs ks _ its h rs rv)
    | bool b => simp only [nkD] at e; cases e
    | str s => simp only [nkD] at e; cases e
    | ref i => simp only [nkD] at e; cases e
theorem nk_iss (I : Inv X pins σ H s) : ∀ (n : Nat) (vs : List Vl) (ks : List NestedKey) (xs : List V) (us : List Value), optAll (nkD n) vs = some ks → Reps X.K ρ H vs xs → Vals xs us → NestedAll s.heap ks us
  | n, [], ks, xs, us, e, r, q => by
    simp only [optAll, Option.some.injEq] at e
    subst e
    cases r; cases q
    exact .nil
  | n, v :: vs, ks, xs, us, e, r, q => by
    simp only [optAll] at e
    cases h1 : nkD n v with
    | none => simp [h1] at e
    | some k =>
      cases h2 : optAll (nkD n) vs with
      | none => simp [h1, h2] at e
      | some ls =>
        simp only [h1, h2, Option.some.injEq] at e
        subst e
        cases r with
        | cons r1 r2 =>
          cases q with
          | cons q1 q2 => exact .cons (nk_is I n v k _ _ h1 r1 q1) (nk_iss I n vs ls _ _ h2 r2 q2)
end
theorem key_is (I : Inv X pins σ H s) {k : NestedKey} {b : Addr} (h : nkOf (keyVl k) = some k) (r : Rep X.K ρ H (keyVl k) (.ref b)) : (nestedKind X.prog X.w).is s.heap k b := by
  obtain ⟨_, h2, _, _⟩ := nkOf_ok h
  refine ⟨?_, h2⟩
  cases hv : keyVl k with
  | tup vs =>
    rw [hv] at h r
    exact nk_is I 6 (.tup vs) k _ _ (show nkD 6 (.tup vs) = some k from h) r rfl
  | _ => rw [hv] at h; cases h
end

/-! the dict -/
abbrev NV : List (NestedKey × Addr × V) → List (NestedKey × Addr × Value) → Prop := Paired fun (p : NestedKey × Addr × V) (q : NestedKey × Addr × Value) => p.1 = q.1 ∧ p.2.1 = q.2.1 ∧ RelV p.2.2 q.2.2
def NdX (K : PySem.W.Frag) (ρ : List Addr) (H : Hp) (kvs : List (NestedKey × Vl)) (a : Addr) (xs : List (NestedKey × Addr × V)) : Prop :=
  (H a = some (.dK []) ∧ kvs = [] ∧ xs = []) ∨ ((H a = some (.ext (NdAt a xs)) ∨ ∃ o, H a = some (.frz o (.ext (NdAt a xs)))) ∧ NRel K ρ H kvs xs)
/-- .. that may be written -/
def NdM (K : PySem.W.Frag) (ρ : List Addr) (H : Hp) (kvs : List (NestedKey × Vl)) (a : Addr) (xs : List (NestedKey × Addr × V)) : Prop :=
  (H a = some (.dK []) ∧ kvs = [] ∧ xs = []) ∨ (H a = some (.ext (NdAt a xs)) ∧ NRel K ρ H kvs xs)
theorem NdM.x {K : PySem.W.Frag} {ρ : List Addr} {H : Hp} {kvs : List (NestedKey × Vl)} {a : Addr} {xs : List (NestedKey × Addr × V)} (N : NdM K ρ H kvs a xs) : NdX K ρ H kvs a xs := by
  rcases N with h | ⟨h, r⟩
  · exact .inl h
  · exact .inr ⟨.inl h, r⟩
def putX {W : Type} (xs : List (NestedKey × Addr × W)) (k : NestedKey) (b : Addr) (y : W) : List (NestedKey × Addr × W) :=
  if (xs.any fun x => decide (x.1 = k)) = true then xs.map (fun x => if x.1 = k then (x.1, x.2.1, y) else x) else xs ++ [(k, b, y)]
section
variable {K : PySem.W.Frag} {ρ : List Addr} {H : Hp} {μ : Mem} {a b : Addr} {kvs : List (NestedKey × Vl)} {xs : List (NestedKey × Addr × V)} {vs : List (NestedKey × Addr × Value)} {k : NestedKey}
theorem nd_at {r : Nat} (h : ndAt μ r = some kvs) : μ[r]? = some (.ndc kvs) ∨ (μ[r]? = some (.dct []) ∧ kvs = []) ∨ μ[r]? = some (.nfz kvs) := by
  unfold ndAt at h
  split at h
  · rename_i e; cases h; exact .inl e
  · rename_i e; cases h; exact .inr (.inr e)
  · rename_i e; cases h; exact .inr (.inl ⟨e, rfl⟩)
  · cases h
theorem nm_at {r : Nat} (h : ndMut μ r = some kvs) : μ[r]? = some (.ndc kvs) ∨ (μ[r]? = some (.dct []) ∧ kvs = []) := by
  unfold ndMut at h
  split at h
  · rename_i e; cases h; exact .inl e
  · rename_i e; cases h; exact .inr ⟨e, rfl⟩
  · cases h
theorem nm_nd {r : Nat} (h : ndMut μ r = some kvs) : ndAt μ r = some kvs := by
  unfold ndAt
  rcases nm_at h with e | ⟨e, rfl⟩ <;> rw [e]
theorem nm_of {r : Nat} (m : MemOk K ρ H μ) (h : ndMut μ r = some kvs) (ha : ρ[r]? = some a) : ∃ xs, NdM K ρ H kvs a xs := by
  rcases nm_at h with e | ⟨e, rfl⟩
  · obtain ⟨b, e1, xs, h1, h2⟩ := m.at' r _ e
    rw [ha] at e1; cases e1
    exact ⟨xs, .inr ⟨h1, h2⟩⟩
  · obtain ⟨b, e1, ks, h1, h2⟩ := m.at' r _ e
    rw [ha] at e1; cases e1
    cases h2
    exact ⟨[], .inl ⟨h1, rfl, rfl⟩⟩
theorem nd_of {r : Nat} (m : MemOk K ρ H μ) (h : ndAt μ r = some kvs) (ha : ρ[r]? = some a) : ∃ xs, NdX K ρ H kvs a xs := by
  rcases nd_at h with e | ⟨e, rfl⟩ | e
  · obtain ⟨b, e1, xs, h1, h2⟩ := m.at' r _ e
    rw [ha] at e1; cases e1
    exact ⟨xs, .inr ⟨.inl h1, h2⟩⟩
  · obtain ⟨b, e1, ks, h1, h2⟩ := m.at' r _ e
    rw [ha] at e1; cases e1
    cases h2
    exact ⟨[], .inl ⟨h1, rfl, rfl⟩⟩
  · obtain ⟨b, e1, o, xs, h1, h2⟩ := m.at' r _ e
    rw [ha] at e1; cases e1
    exact ⟨xs, .inr ⟨.inr ⟨o, h1⟩, h2⟩⟩
theorem NRel.get (r : NRel K ρ H kvs xs) (k : NestedKey) : (dget kvs k = none ∧ (xs.find? fun x => decide (x.1 = k)) = none) ∨ ∃ v q, dget kvs k = some v ∧ (xs.find? fun x => decide (x.1 = k)) = some q ∧ Rep K ρ H v q.2.2 := by
  unfold dget
  induction r with
  | nil => exact .inl ⟨rfl, rfl⟩
  | @cons p q ps qs h t ih =>
    by_cases e : p.1 = k
    · refine .inr ⟨p.2, q, ?_, ?_, h.2.2⟩
      · rw [List.find?_cons_of_pos (by simpa using e)]; rfl
      · rw [List.find?_cons_of_pos (by rw [← h.1]; simpa using e)]
    · rw [List.find?_cons_of_neg (by simpa using e), List.find?_cons_of_neg (by rw [← h.1]; simpa using e)]
      exact ih
theorem NV.get (r : NV xs vs) (k : NestedKey) : ((xs.find? fun x => decide (x.1 = k)) = none ∧ atKey vs k = none) ∨ ∃ q p, (xs.find? fun x => decide (x.1 = k)) = some q ∧ atKey vs k = some p ∧ RelV q.2.2 p.2 := by
  unfold atKey
  induction r with
  | nil => exact .inl ⟨rfl, rfl⟩
  | @cons p q ps qs h t ih =>
    by_cases e : p.1 = k
    · refine .inr ⟨p, q.2, ?_, ?_, h.2.2⟩
      · rw [List.find?_cons_of_pos (by simpa using e)]
      · rw [List.find?_cons_of_pos (by rw [← h.1]; simpa using e)]; rfl
    · rw [List.find?_cons_of_neg (by simpa using e), List.find?_cons_of_neg (by rw [← h.1]; simpa using e)]
      exact ih
theorem any_key {W : Type} : ∀ (xs : List (NestedKey × Addr × W)), (xs.any fun x => decide (x.1 = k)) = decide (k ∈ xs.map (·.1))
  | [] => by simp
  | x :: xs => by
    rw [List.any_cons, any_key xs, List.map_cons]
    by_cases e : x.1 = k
    · simp [e]
    · simp [e, Ne.symm e]
theorem NV.keys (r : NV xs vs) : xs.map (·.1) = vs.map (·.1) := by
  induction r with
  | nil => rfl
  | cons h t ih => rw [List.map_cons, List.map_cons, h.1, ih]
theorem NRel.keys (r : NRel K ρ H kvs xs) : kvs.map (·.1) = xs.map (·.1) := by
  induction r with
  | nil => rfl
  | cons h t ih => rw [List.map_cons, List.map_cons, h.1, ih]
theorem find_any {α : Type} {p : α → Bool} : ∀ l : List α, (l.find? p).isSome = l.any p
  | [] => rfl
  | x :: l => by
    rw [List.any_cons]
    cases h : p x with
    | true => rw [List.find?_cons_of_pos h]; rfl
    | false => rw [List.find?_cons_of_neg (by rw [h]; decide), Bool.false_or, find_any l]
theorem stored_put : storedH vs k b u = putX vs k b u := by
  unfold storedH putX
  have e : (atKey vs k).isSome = (vs.any fun x => decide (x.1 = k)) := by
    unfold atKey
    rw [Option.isSome_map]
    exact find_any vs
  rw [e]
  rfl
theorem Paired.snocN {α β : Type} {F : α → β → Prop} {x : α} {y : β} (h : F x y) : ∀ {l₁ : List α} {l₂ : List β}, Paired F l₁ l₂ → Paired F (l₁ ++ [x]) (l₂ ++ [y])
  | _, _, .nil => .cons h .nil
  | _, _, .cons r t => .cons r (Paired.snocN h t)
theorem Paired.maps {α β : Type} {F G : α → β → Prop} {f : α → α} {g : β → β} (h : ∀ a b, F a b → G (f a) (g b)) : ∀ {l₁ : List α} {l₂ : List β}, Paired F l₁ l₂ → Paired G (l₁.map f) (l₂.map g)
  | _, _, .nil => .nil
  | _, _, .cons r t => .cons (h _ _ r) (Paired.maps h t)
theorem NV.put {y : V} {u : Value} (r : NV xs vs) (ry : RelV y u) : NV (putX xs k b y) (putX vs k b u) := by
  unfold putX
  rw [any_key, any_key, r.keys]
  split
  · refine Paired.maps (fun p q h => ?_) r
    rw [← h.1]
    split
    · exact ⟨rfl, h.2.1, ry⟩
    · exact h
  · exact Paired.snocN ⟨rfl, rfl, ry⟩ r
theorem NRel.put {v : Vl} {y : V} (r : NRel K ρ H kvs xs) (rk : Rep K ρ H (keyVl k) (.ref b)) (nk : nkOf (keyVl k) = some k) (ry : Rep K ρ H v y) : NRel K ρ H (dput kvs k v) (putX xs k b y) := by
  unfold putX dput
  have e : (kvs.any fun kv => decide (kv.1 = k)) = (xs.any fun x => decide (x.1 = k)) := by
    rw [any_key, ← r.keys]
    clear r
    induction kvs with
    | nil => simp
    | cons x l ih =>
      rw [List.any_cons, ih, List.map_cons]
      by_cases e : x.1 = k
      · simp [e]
      · simp [e, Ne.symm e]
  rw [e]
  split
  · refine Paired.maps (fun p q h => ?_) r
    rw [← h.1]
    split
    · exact ⟨rfl, h.2.1, ry⟩
    · exact h
  · exact Paired.snocN ⟨rfl, ⟨rk, nk⟩, ry⟩ r
theorem putX_len {W : Type} {xs : List (NestedKey × Addr × W)} {y : W} : (putX xs k b y).length ≤ xs.length + 1 := by
  unfold putX
  split
  · rw [List.length_map]; omega
  · rw [List.length_append, List.length_cons, List.length_nil]; omega
end
section
variable {X : Cx} {pins : List (Addr × Obj)} {σ : L2.St} {H : Hp} {s : Shared} {ρ : List Addr} {kvs : List (NestedKey × Vl)} {a b : Addr} {xs : List (NestedKey × Addr × V)} {A : Around} {E : Value → Shared → Prop}
theorem NdX.len (N : NdX X.K ρ H kvs a xs) : kvs.length = xs.length := by
  rcases N with ⟨_, rfl, rfl⟩ | ⟨_, r⟩
  · rfl
  · exact Paired.length r
theorem NdX.rel0 {K : PySem.W.Frag} (N : NdX K ρ H kvs a xs) : NRel K ρ H kvs xs := by
  rcases N with ⟨_, rfl, rfl⟩ | ⟨_, r⟩
  · exact .nil
  · exact r
theorem NdX.rel (N : NdX X.K ρ H kvs a xs) : NRel X.K ρ H kvs xs := by
  rcases N with ⟨_, rfl, rfl⟩ | ⟨_, r⟩
  · exact .nil
  · exact r
theorem NdM.mut (N : NdM X.K ρ H kvs a xs) : Mut (H a) := by
  rcases N with ⟨e, _⟩ | ⟨e, _⟩ <;> rw [e] <;> trivial
theorem NdX.now (I : Inv X pins σ H s) (N : NdX X.K ρ H kvs a xs) : xs.length ≤ sizeLine ∧ (a == sysModules) = false ∧ ∃ vs, NV xs vs ∧ s.heap.DictOfH (nestedKind X.prog X.w) a vs ∧ ∀ x ∈ vs, ∀ w w' : World, x.1.hash w = x.1.hash w' := by
  rcases N with ⟨e, rfl, rfl⟩ | ⟨e, r⟩
  · obtain ⟨z, hd, vs, rel, o, es, ep, h1, h2, h3, h4⟩ := L2.dk_of I.hok e
    cases rel
    have he : es.toList = [] := by
      have := h4.2.1
      cases this' : es.toList with
      | nil => rfl
      | cons c l => rw [this'] at this; cases this
    exact ⟨by simp, hd, [], .nil, ⟨o, es, ep, h1, h2, h3, by simpa using he, by simp, by simp⟩, by simp⟩
  · have hx : NdAt a xs s.heap := by
      rcases e with e | ⟨o, e⟩
      · exact (I.hok _ _ e).1
      · exact (I.hok _ _ e).2.1
    obtain ⟨z, hd, vs, rel, o, es, ep, h1, h2, h3, h4, h5⟩ := hx
    have all : ∀ {kvs : List (NestedKey × Vl)} {xs : List (NestedKey × Addr × V)} {vs : List (NestedKey × Addr × Value)}, NRel X.K ρ H kvs xs → NV xs vs → ∀ x ∈ vs, (nestedKind X.prog X.w).is s.heap x.1 x.2.1 ∧ ∀ w w' : World, x.1.hash w = x.1.hash w' := by
      intro kvs xs vs r
      induction r generalizing vs with
      | nil => intro q; cases q; intro x hx; cases hx
      | @cons p q ps qs hq t ih =>
        intro q2
        cases q2 with
        | cons c d =>
          intro x hx
          rcases List.mem_cons.mp hx with e | hx
          · subst e
            rw [← c.1, ← c.2.1, ← hq.1]
            exact ⟨key_is I hq.2.1.2 hq.2.1.1, (nkOf_ok hq.2.1.2).2.2.1⟩
          · exact ih d x hx
    exact ⟨z, hd, vs, rel, ⟨o, es, ep, h1, h2, h3, h4 _ _, fun x hx => (all r rel x hx).1, h5⟩, fun x hx => (all r rel x hx).2⟩
theorem NdX.typeIs (I : Inv X pins σ H s) (N : NdX X.K ρ H kvs a xs) : s.TypeIs (.ref a) "dict" := by
  obtain ⟨_, _, vs, _, dd, _⟩ := N.now I
  exact dd.typeIs
variable {k : NestedKey}
theorem nd_get2 {d : V} {r : Value} {Q : Value → Shared → Prop} (hu : A.units + 65 < cLine) (I : Inv X pins σ H s) (N : NdX X.K ρ H kvs a xs) (nk : nkOf (keyVl k) = some k) (rk : Rep X.K ρ H (keyVl k) (.ref b)) (rd : RelV d r)
    (h1 : dget kvs k = none → ∀ s', Inv X pins σ H s' → Q r s') (h2 : ∀ v y u s', dget kvs k = some v → Rep X.K ρ H v y → RelV y u → Inv X pins σ H s' → Q u s') :
    wpAny (model X.prog X.w) A (call (.builtin "dict.get") [.ref a, .ref b, r]) Q E s := by
  obtain ⟨z, hd, vs, rel, dd, _⟩ := N.now I
  refine getOr_keyed (knd := nestedKind X.prog X.w) (by show A.units + 1 + 8 < cLine; omega) (key_is I nk rk) hd ⟨vs, dd, rfl⟩ ?_
  rw [valueAt_pairsH]
  rcases N.rel.get k with ⟨e1, e2⟩ | ⟨v, q, e1, e2, rv⟩
  · rcases NV.get rel k with ⟨f1, f2⟩ | ⟨q2, p, f1, f2, _⟩
    · rw [f2]
      exact h1 e1 _ (I.tok _)
    · rw [e2] at f1; cases f1
  · rcases NV.get rel k with ⟨f1, f2⟩ | ⟨q2, p, f1, f2, f3⟩
    · rw [e2] at f1; cases f1
    · rw [e2] at f1; cases f1
      rw [f2]
      exact h2 v _ p.2 _ e1 rv f3 (I.tok _)
theorem nd_some (N : NdX X.K ρ H kvs a xs) {vs : List (NestedKey × Addr × Value)} (rel : NV xs vs) : (atKey vs k).isSome = (dget kvs k).isSome := by
  rcases N.rel.get k with ⟨e1, e2⟩ | ⟨v, q, e1, e2, rv⟩
  · rcases NV.get rel k with ⟨f1, f2⟩ | ⟨q2, p, f1, f2, _⟩
    · rw [f2, e1]; rfl
    · rw [e2] at f1; cases f1
  · rcases NV.get rel k with ⟨f1, f2⟩ | ⟨q2, p, f1, f2, f3⟩
    · rw [e2] at f1; cases f1
    · rw [f2, e1]; rfl
theorem nd_in {Q : Value → Shared → Prop} (hu : A.units + 65 < cLine) (I : Inv X pins σ H s) (N : NdX X.K ρ H kvs a xs) (nk : nkOf (keyVl k) = some k) (rk : Rep X.K ρ H (keyVl k) (.ref b)) (h : ∀ s', Inv X pins σ H s' → Q (.bool (dget kvs k).isSome) s') :
    wpAny (model X.prog X.w) A (compareOp .In (.ref b) (.ref a)) Q E s := by
  obtain ⟨z, hd, vs, rel, dd, _⟩ := N.now I
  refine wpAny_in_heap (knd := nestedKind X.prog X.w) (by show A.units + 1 + 8 < cLine; omega) (key_is I nk rk) hd dd ?_
  rw [nd_some N rel]
  exact h _ (I.tok _)
theorem nd_notIn {Q : Value → Shared → Prop} (hu : A.units + 65 < cLine) (I : Inv X pins σ H s) (N : NdX X.K ρ H kvs a xs) (nk : nkOf (keyVl k) = some k) (rk : Rep X.K ρ H (keyVl k) (.ref b)) (h : ∀ s', Inv X pins σ H s' → Q (.bool (!(dget kvs k).isSome)) s') :
    wpAny (model X.prog X.w) A (compareOp .NotIn (.ref b) (.ref a)) Q E s := by
  obtain ⟨z, hd, vs, rel, dd, _⟩ := N.now I
  refine wpAny_notIn_heap (knd := nestedKind X.prog X.w) (by show A.units + 1 + 8 < cLine; omega) (key_is I nk rk) hd dd ?_
  rw [nd_some N rel]
  exact h _ (I.tok _)
theorem nd_getItem {v : Vl} {Q : Value → Shared → Prop} (hu : A.units + 65 < cLine) (I : Inv X pins σ H s) (N : NdX X.K ρ H kvs a xs) (nk : nkOf (keyVl k) = some k) (rk : Rep X.K ρ H (keyVl k) (.ref b)) (hv : dget kvs k = some v)
    (h : ∀ y u s', Rep X.K ρ H v y → RelV y u → Inv X pins σ H s' → Q u s') : wpAny (model X.prog X.w) A (getItem (.ref a) (.ref b)) Q E s := by
  obtain ⟨z, hd, vs, rel, dd, _⟩ := N.now I
  rcases N.rel.get k with ⟨e1, e2⟩ | ⟨v2, q, e1, e2, rv⟩
  · rw [e1] at hv; cases hv
  · rw [e1] at hv; cases hv
    rcases NV.get rel k with ⟨f1, f2⟩ | ⟨q2, p, f1, f2, f3⟩
    · rw [e2] at f1; cases f1
    · rw [e2] at f1; cases f1
      exact wpAny_getItem_heap (knd := nestedKind X.prog X.w) (by show A.units + 1 + 8 < cLine; omega) (key_is I nk rk) dd f2 (h _ _ _ rv f3 (I.tok _))
theorem nd_len {Q : Value → Shared → Prop} (I : Inv X pins σ H s) (N : NdX X.K ρ H kvs a xs) (h : ∀ t s', Inv X pins σ H s' → Q (.int kvs.length t) s') : wpAny (model X.prog X.w) A (call (.builtin "len") [.ref a]) Q E s := by
  obtain ⟨z, hd, vs, rel, dd, _⟩ := N.now I
  have hm : s.heap.DictKeyed (nestedKind X.prog X.w) a (pairsH vs) := ⟨vs, dd, rfl⟩
  have e : (pairsH vs).length = kvs.length := by rw [pairsH_length, ← Paired.length rel, N.len]
  refine PyProof.Rows.call_len_slot (n := (pairsH vs).length) hm.typeIs PySem.F.slot_dict_len (fun Q' hq => len_keyed hd hm hq) (by omega) (by rw [e, N.len]; rw [sizeLine_eq] at z; omega) ?_
  rw [e]
  exact h _ _ (I.tok _)
theorem nd_setItem {y : V} {u : Value} {Q : Unit → Shared → Prop} (hu : A.units + 65 < cLine) (I : Inv X pins σ H s) (N : NdM X.K ρ H kvs a xs) (nk : nkOf (keyVl k) = some k) (rk : Rep X.K ρ H (keyVl k) (.ref b)) (ry : RelV y u) (hl : kvs.length < sizeLine)
    (h : ∀ s', Inv X pins σ (upd H a (.ext (NdAt a (putX xs k b y)))) s' → Q () s') : wpAny (model X.prog X.w) A (setItem (.ref a) (.ref b) u) Q E s := by
  obtain ⟨z, hd, vs, rel, dd, hw⟩ := N.x.now I
  have hz : vs.length ≤ sizeLine := by rw [← Paired.length rel]; exact z
  have e := N.x.len
  refine wpAny_setItem_heap (hsz := hz) (knd := nestedKind X.prog X.w) (by show A.units + 1 + 8 < cLine; omega) (key_is I nk rk) dd fun h' dd' hs => h _ ?_
  obtain ⟨o, es, ep, hq, h2, h3, h4, _, h5⟩ := dd'
  have hp := putX_len (xs := xs) (k := k) (b := b) (y := y)
  rw [stored_put] at h4 h5
  refine d_write I N.mut hs ⟨o, hq⟩ ⟨⟨by omega, hd, _, NV.put rel ry, o, es, ep, hq, h2, h3, fun P w => ?_, h5⟩, ⟨o, hq⟩, fun h1 h2 ⟨q1, q2, q3, q4, q5, q6, q7, q8, q9⟩ hk => ⟨q1, q2, q3, q4, q5, q6, q7, hk _ q8, q9⟩⟩
  rw [h4]
  refine List.map_congr_left fun x hx => ?_
  have hh : ∀ w w' : World, x.1.hash w = x.1.hash w' := by
    unfold putX at hx
    split at hx
    · obtain ⟨y2, hy, rfl⟩ := List.mem_map.mp hx
      split
      · exact hw y2 hy
      · exact hw y2 hy
    · rcases List.mem_append.mp hx with hx | hx
      · exact hw x hx
      · rw [List.mem_singleton.mp hx]; exact (nkOf_ok nk).2.2.1
  show DictEntry.mk _ _ _ = DictEntry.mk _ _ _
  rw [show (nestedKind X.prog X.w).hash x.1 = x.1.hash X.w from rfl, show (nestedKind P w).hash x.1 = x.1.hash w from rfl, hh X.w w]
end
end PV

/-! own rules: sorted of tuples, nested; of a dict's keys, items -/
namespace PV
open PySem PySem.Spec PyProof.Rows L2

section
variable {X : Cx} {pins : List (Addr × Obj)} {σ : L2.St} {H : Hp} {s : Shared} {ρ : List Addr}
mutual
theorem toK_reads (I : Inv X pins σ H s) : ∀ (n : Nat) (v : Vl) (d : PyData) (x : V) (u : Value), toK n v = some d → Rep X.K ρ H v x → RelV x u → Reads s.heap u d [] ∧ d.depth ≤ n
  | 0, v, d, x, u, e, r, q => by
    cases v <;> simp only [toK, Option.some.injEq] at e <;> first | cases e | skip
    · cases r; obtain rfl : u = Value.none := q; exact ⟨.none, by simp [PyData.depth]⟩
    · cases r; obtain ⟨t, rfl⟩ := q; exact ⟨.int _ _, by simp [PyData.depth]⟩
    · cases r; obtain ⟨t, rfl⟩ := q; exact ⟨.str _ _, by simp [PyData.depth]⟩
  | n + 1, v, d, x, u, e, r, q => by
    cases v with
    | none =>
      simp only [toK, Option.some.injEq] at e
      subst e
      cases r; obtain rfl : u = Value.none := q; exact ⟨.none, by simp [PyData.depth]⟩
    | int i =>
      simp only [toK, Option.some.injEq] at e
      subst e
      cases r; obtain ⟨t, rfl⟩ := q; exact ⟨.int _ _, by simp [PyData.depth]⟩
    | str i =>
      simp only [toK, Option.some.injEq] at e
      subst e
      cases r; obtain ⟨t, rfl⟩ := q; exact ⟨.str _ _, by simp [PyData.depth]⟩
    | tup vs =>
      simp only [toK] at e
      obtain ⟨ks, h, rfl⟩ := Option.map_eq_some_iff.mp e
      cases r with
      | tup hq rs =>
        obtain ⟨its, rv, ⟨o, ho, hc, m, hd⟩, _⟩ := I.tuple hq
        obtain rfl := (show u = Value.ref _ from q)
        obtain ⟨h1, h2⟩ := toKs_reads I n vs ks _ its h rs rv
        exact ⟨.tuple ho hc hd h1, by simp only [PyData.depth]; omega⟩
    | bool b => simp only [toK] at e; cases e
    | ref i => simp only [toK] at e; cases e
theorem toKs_reads (I : Inv X pins σ H s) : ∀ (n : Nat) (vs : List Vl) (ds : List PyData) (xs : List V) (us : List Value), optAll (toK n) vs = some ds → Reps X.K ρ H vs xs → Vals xs us → ReadsAll s.heap us ds [] ∧ PyData.depthAll ds ≤ n
  | n, [], ks, xs, us, e, r, q => by
    simp only [optAll, Option.some.injEq] at e
    subst e
    cases r; cases q
    exact ⟨.nil, by simp [PyData.depthAll]⟩
  | n, v :: vs, ks, xs, us, e, r, q => by
    simp only [optAll] at e
    cases h1 : toK n v with
    | none => simp [h1] at e
    | some k =>
      cases h2 : optAll (toK n) vs with
      | none => simp [h1, h2] at e
      | some ls =>
        simp only [h1, h2, Option.some.injEq] at e
        subst e
        cases r with
        | cons r1 r2 =>
          cases q with
          | cons q1 q2 =>
            obtain ⟨a1, a2⟩ := toK_reads I n v k _ _ h1 r1 q1
            obtain ⟨b1, b2⟩ := toKs_reads I n vs ls _ _ h2 r2 q2
            exact ⟨.cons a1 b1, by simp only [PyData.depthAll]; omega⟩
end
end
theorem encs_of : ∀ {vs : List Vl} {ds : List PyData}, optAll (toK 10) vs = some ds → vs.map encK = ds ∧ ∀ v ∈ vs, toK 10 v = some (encK v)
  | [], ds, e => by
    simp only [optAll, Option.some.injEq] at e
    subst e
    exact ⟨rfl, fun v hv => nomatch hv⟩
  | v :: vs, ds, e => by
    simp only [optAll] at e
    cases h1 : toK 10 v with
    | none => simp [h1] at e
    | some k =>
      cases h2 : optAll (toK 10) vs with
      | none => simp [h1, h2] at e
      | some ls =>
        simp only [h1, h2, Option.some.injEq] at e
        subst e
        obtain ⟨a1, a2⟩ := encs_of h2
        have ek : encK v = k := by unfold encK; rw [h1]; rfl
        refine ⟨by rw [List.map_cons, a1, ek], fun u hu => ?_⟩
        rcases List.mem_cons.mp hu with rfl | hu
        · rw [ek]; exact h1
        · exact a2 u hu
theorem srt_ok {ds : List PyData} (h : srtOk ds = true) : PySem.W.AllAlike ds ∧ PySem.W.Sortable ds := by
  unfold srtOk at h
  rw [List.all_eq_true] at h
  refine ⟨fun d hd e he => ?_, .inl fun d hd => ?_⟩
  · have := h d hd
    rw [Bool.and_eq_true, List.all_eq_true] at this
    exact this.2 e he
  · have := h d hd
    rw [Bool.and_eq_true] at this
    cases d with
    | tuple xs => cases xs with
      | nil => simp [isTupD] at this
      | cons x r => exact ⟨x, r, rfl⟩
    | _ => simp [isTupD] at this
theorem srtV_perm (vs : List Vl) : (srtV vs).Perm vs := List.mergeSort_perm _ _
theorem ms_sorted (vs : List Vl) : (srtV vs).Pairwise vle := by
  have h := PySem.W.sort_pairwise (PySem.W.sortLe_total (PyProof.Rows.listOrd PyProof.Rows.itemOrd) false fun b => PySem.W.keyToks (encK b)) vs
  refine h.imp fun {a b} h => ?_
  have h : (!PySem.W.dataLt (encK b) (encK a)) = true := h
  rw [Bool.not_eq_true'] at h
  exact h
section
variable {X : Cx} {pins : List (Addr × Obj)} {σ : L2.St} {H : Hp} {s : Shared}
abbrev REach (K : PySem.W.Frag) (ρ : List Addr) (H : Hp) : List Value → List Vl → Prop := PySem.W.EachIs fun u v => ∃ x, Rep K ρ H v x ∧ RelV x u
theorem each_of {K : PySem.W.Frag} {ρ : List Addr} : ∀ {vs : List Vl} {xs : List V} {us : List Value}, Reps K ρ H vs xs → Vals xs us → REach K ρ H us vs
  | _, _, _, .nil, .nil => .nil
  | _, _, _, .cons r rs, .cons q qs => .cons ⟨_, r, q⟩ (each_of rs qs)
theorem of_each {K : PySem.W.Frag} {ρ : List Addr} : ∀ {vs : List Vl} {us : List Value}, REach K ρ H us vs → ∃ xs, Reps K ρ H vs xs ∧ Vals xs us
  | _, _, .nil => ⟨[], .nil, .nil⟩
  | _, _, .cons ⟨x, r, q⟩ t => by
    obtain ⟨xs, a, b⟩ := of_each t
    exact ⟨x :: xs, .cons r a, .cons q b⟩
/-- what was gathered, sorted -/
theorem sorted_cps {x : Value} {Q : VK} (hu : X.A.units + 65 < cLine) (G : Heap → Nat → List Value → Prop)
    (hcol : ∀ Q1 : List Value → Shared → Prop, (∀ h1 tk its, G h1 tk its → Q1 its { s with heap := h1, toks := tk }) → wpAny (model X.prog X.w) X.A.in1 (collect x) Q1 X.xe s)
    (hG : ∀ h1 tk its, G h1 tk its → ∃ H1 ρ1 vs ds, Inv X pins σ H1 { s with heap := h1, toks := tk } ∧ REach X.K ρ1 H1 its vs ∧ optAll (toK 10) vs = some ds ∧ srtOk ds = true ∧ vs.length ≤ sizeLine ∧
      ∀ zs p, Reps X.K ρ1 H1 (srtV vs) zs → H1 p = none → Q (.ref p) (upd H1 p (.lst zs))) :
    wpAny (model X.prog X.w) X.A (call (.builtin "sorted") [x]) (EP X pins σ Q) X.xe s := by
  refine Calls.call_function_entry PyProof.Rows.kind_sorted PyProof.Rows.plain_sorted PyProof.Rows.entry_sorted (PyProof.Rows.args_sorted1 _) ?_
  unfold Builtin.«sorted»
  refine wpAny_bind (m := checkCount "sorted" 1 1 _) (wpAny_pure ?_)
  refine wpAny_bind (hcol _ fun h1 tk its g => ?_)
  obtain ⟨H1, ρ1, vs, ds, I1, e, hds, hok, hL, q⟩ := hG h1 tk its g
  obtain ⟨ed, ev⟩ := encs_of hds
  obtain ⟨hal, hk⟩ := srt_ok hok
  rw [← ed] at hal hk
  have hlen : its.length = vs.length := e.length
  refine wpAny_bind (wpAny_newList ?_ (by rw [hlen]; exact hL))
  have hoL : (h1.push (seqObj "list" its.toArray 0)).get? h1.objs.size = some (seqObj "list" its.toArray 0) := Heap.get?_push_size _ rfl
  have er' : PySem.W.EachIs (fun v b => ∃ as, Reads (h1.push (seqObj "list" its.toArray 0)) v (encK b) as ∧ h1.objs.size ∉ as) its vs := by
    have mem : ∀ {us : List Value} {ws : List Vl}, REach X.K ρ1 H1 us ws → (∀ v ∈ ws, toK 10 v = some (encK v)) → PySem.W.EachIs (fun v b => ∃ as, Reads (h1.push (seqObj "list" its.toArray 0)) v (encK b) as ∧ h1.objs.size ∉ as) us ws := by
      intro us ws r
      induction r with
      | nil => intro _; exact .nil
      | @cons a b as bs h t ih =>
        intro hm
        obtain ⟨y, r1, r2⟩ := h
        obtain ⟨rd, _⟩ := toK_reads I1 10 b _ y a (hm b List.mem_cons_self) r1 r2
        exact .cons ⟨[], PyProof.Rows.Reads.keeps (fun c o z => Heap.get?_push_of_some _ z) rd, by simp⟩ (ih fun v hv => hm v (List.mem_cons_of_mem _ hv))
    exact mem e ev
  have hdp : ∀ b ∈ vs, (encK b).depth ≤ 10 := by
    have mem : ∀ {us : List Value} {ws : List Vl}, REach X.K ρ1 H1 us ws → (∀ v ∈ ws, toK 10 v = some (encK v)) → ∀ b ∈ ws, (encK b).depth ≤ 10 := by
      intro us ws r
      induction r with
      | nil => intro _ b hb; cases hb
      | @cons a b as bs h t ih =>
        intro hm c hc
        obtain ⟨y, r1, r2⟩ := h
        rcases List.mem_cons.mp hc with rfl | hc
        · exact (toK_reads I1 10 c _ y a (hm c List.mem_cons_self) r1 r2).2
        · exact ih (fun v hv => hm v (List.mem_cons_of_mem _ hv)) c hc
    exact mem e ev
  refine wpAny_bind (wpAny_holding (PySem.W.list_sort_data (s := { s with heap := h1.push (seqObj "list" its.toArray 0), toks := tk }) (A := X.A.in1) (bs := vs) (enc := encK) (R := fun u v => ∃ x, Rep X.K ρ1 H1 v x ∧ RelV x u) (n := 0) hoL e er' hal hk hL (fun b hb => by
    have := hdp b hb
    show X.A.in1.units + 1 + _ < _
    have : X.A.in1.units = X.A.units + 1 := rfl
    omega) fun out hol eo => ?_))
  obtain ⟨c, hc2⟩ := PyProof.Rows.sortedHeap_at (vs := its) (out := out.toArray) hoL
  obtain ⟨zs, rz, vz⟩ := of_each eo
  have hzl : zs.length ≤ sizeLine := by
    have a1 := rz.length
    rw [List.length_mergeSort] at a1
    omega
  refine wpAny_pure ⟨_, rfl, .ref h1.objs.size, upd H1 h1.objs.size (.lst zs), I1.laid (t' := tk) (fun b u z => ?_) (Nat.le_refl _) (show ObjOk X.prog X.w _ _ _ (.lst zs) from ⟨hzl, out, c, vz, hc2⟩), rfl,
    q zs _ rz (I1.hok.fresh (Nat.le_refl _))⟩
  have hlt : b < h1.objs.size := Heap.lt_size z
  rw [PyProof.Rows.sortedHeap_old (Nat.ne_of_lt hlt) (by rw [size_push']; exact Nat.lt_succ_of_lt hlt)]
  exact Heap.get?_push_of_some _ z
/-- sorted(xs), xs a list -/
theorem srt_list {a : Addr} {xs : List V} {vs : List Vl} {ρ : List Addr} {Q : VK} (hu : X.A.units + 65 < cLine) (I : Inv X pins σ H s) (hq : SqL X.K H a xs) (r : Reps X.K ρ H vs xs) {ds : List PyData} (hds : optAll (toK 10) vs = some ds) (hok : srtOk ds = true)
    (q : ∀ zs p, Reps X.K ρ H (srtV vs) zs → H p = none → Q (.ref p) (upd H p (.lst zs))) : wpAny (model X.prog X.w) X.A (call (.builtin "sorted") [.ref a]) (EP X pins σ Q) X.xe s := by
  obtain ⟨its, rv, pl, hz⟩ := I.list hq
  have hil : its.length ≤ sizeLine := by rw [← rv.length]; exact hz
  refine sorted_cps hu (fun h1 tk l => l = its ∧ ∀ b u, s.heap.get? b = some u → h1.get? b = some u) (fun Q1 hQ => PyProof.Rows.collect_list pl.isList (hQ _ s.toks its ⟨rfl, fun b u e => ?_⟩) hil) ?_
  · exact (Heap.get?_update_other _ _ (Nat.ne_of_gt (Heap.lt_size e))).trans (Heap.get?_push_of_some _ e)
  · rintro h1 tk l ⟨rfl, k⟩
    exact ⟨H, ρ, vs, ds, I.kept k, each_of r rv, hds, hok, by rw [r.length]; exact hz, q⟩
/-- sorted(d) -/
theorem srt_keys {a : Addr} {xs : List (NestedKey × Addr × V)} {kvs : List (NestedKey × Vl)} {ρ : List Addr} {Q : VK} (hc : X.calm = true) (hu : X.A.units + 65 < cLine) (I : Inv X pins σ H s) (N : NdX X.K ρ H kvs a xs) {ds : List PyData} (hds : optAll (toK 10) (kvs.map fun p => keyVl p.1) = some ds) (hok : srtOk ds = true)
    (q : ∀ zs p, Reps X.K ρ H (srtV (kvs.map fun p => keyVl p.1)) zs → H p = none → Q (.ref p) (upd H p (.lst zs))) : wpAny (model X.prog X.w) X.A (call (.builtin "sorted") [.ref a]) (EP X pins σ Q) X.xe s := by
  obtain ⟨z, hd, vs, rel, dd, _⟩ := N.now I
  obtain ⟨o, es, ep, ho, hx, hdat, hes, his, hn⟩ := dd
  have hsz : es.size = vs.length := size_of_entries hes
  have hl := Paired.length rel
  refine sorted_cps hu (fun h1 tk l => (∀ b u, s.heap.get? b = some u → h1.get? b = some u) ∧ l = vs.map fun x => Value.ref x.2.1)
    (fun Q1 hQ => PySem.W.kdu_collect (A := X.A.in1) (KdlSrc.rawDict (d := a) (es := es) (ep := ep) hd) (I.ok.hd hc) ⟨o, ho, hx, hdat⟩ (by omega) fun h1 tk acc hk hacc => hQ h1 tk acc.toList ⟨hk, ?_⟩) ?_
  · refine List.ext_getElem? fun j => ?_
    rw [Array.getElem?_toList, List.getElem?_map]
    cases e : acc[j]? with
    | none =>
      have : vs.length ≤ j := by
        rw [Array.getElem?_eq_none_iff] at e
        have := hacc.1
        omega
      rw [List.getElem?_eq_none this]; rfl
    | some v =>
      obtain ⟨hi, rfl⟩ := hacc.2 j v e
      have e2 := entry_at hes j
      rw [Array.getElem?_eq_getElem hi] at e2
      cases e3 : vs[j]? with
      | none => rw [e3] at e2; cases e2
      | some y =>
        rw [e3] at e2
        have e2 := Option.some.inj e2
        rw [e2]
        rfl
  · rintro h1 tk l ⟨k, rfl⟩
    refine ⟨H, ρ, _, ds, I.kept k, ?_, hds, hok, by rw [List.length_map, N.len]; exact z, q⟩
    have go : ∀ {kvs : List (NestedKey × Vl)} {xs : List (NestedKey × Addr × V)} {vs : List (NestedKey × Addr × Value)}, NRel X.K ρ H kvs xs → NV xs vs → REach X.K ρ H (vs.map fun x => Value.ref x.2.1) (kvs.map fun p => keyVl p.1) := by
      intro kvs xs vs r
      induction r generalizing vs with
      | nil => intro q; cases q; exact .nil
      | @cons p q ps qs hq t ih =>
        intro q2
        cases q2 with
        | cons c d =>
          rw [List.map_cons, List.map_cons]
          exact .cons ⟨.ref q.2.1, hq.2.1.1, by rw [c.2.1]; rfl⟩ (ih d)
    exact go N.rel rel
theorem srt_items {p a : Addr} {xs : List (NestedKey × Addr × V)} {kvs : List (NestedKey × Vl)} {ρ : List Addr} {Q : VK} (hc : X.calm = true) (hu : X.A.units + 65 < cLine) (I : Inv X pins σ H s) (hp : H p = some (L2.DX.itemsO p a)) (N : NdX X.K ρ H kvs a xs) {ds : List PyData} (hds : optAll (toK 10) (kvs.map itemV) = some ds) (hok : srtOk ds = true)
    (q : ∀ H1, (∀ b o, H b = some o → H1 b = some o) → ∀ zs p, Reps X.K ρ H1 (srtV (kvs.map itemV)) zs → H1 p = none → Q (.ref p) (upd H1 p (.lst zs))) : wpAny (model X.prog X.w) X.A (call (.builtin "sorted") [.ref p]) (EP X pins σ Q) X.xe s := by
  have view : s.heap.IsItemsView p a := (show ObjOk X.prog X.w H s.heap p (L2.DX.itemsO p a) from I.hok p _ hp).1
  obtain ⟨z, hd, vs, rel, dd, _⟩ := N.now I
  obtain ⟨o, es, ep, ho, hx, hdat, hes, his, hn⟩ := dd
  have hsz : es.size = vs.length := size_of_entries hes
  have hl := Paired.length rel
  refine sorted_cps hu (fun h1 tk l => (∀ b u, s.heap.get? b = some u → h1.get? b = some u) ∧ ∃ as, l = as.map Value.ref ∧ as.length = es.size ∧ PySem.W.DilG es s.heap.objs.size h1 as)
    (fun Q1 hQ => PySem.W.dil_collect (A := X.A.in1) (es := es) (ep := ep) (I.ok.hd hc) view ⟨o, ho, hx, hdat⟩ (by omega) fun h1 tk as hk hal g => hQ h1 tk _ ⟨hk, as, rfl, hal, g⟩) ?_
  rintro h1 tk l ⟨k, as, rfl, hal, g⟩
  have I1 : Inv X pins σ H { s with heap := h1, toks := tk } := I.kept k
  have nd : as.Nodup := List.Pairwise.imp (fun h => Nat.ne_of_lt h) g.rise
  -- the pair at its place
  have pr : ∀ (j : Nat) (b : Addr), as[j]? = some b → ∃ (e : NestedKey × Vl) (x : NestedKey × Addr × V) (v : Value), kvs[j]? = some e ∧ (e.1 = x.1 ∧ (Rep X.K ρ H (keyVl e.1) (.ref x.2.1) ∧ nkOf (keyVl e.1) = some e.1) ∧ Rep X.K ρ H e.2 x.2.2) ∧ RelV x.2.2 v ∧ xs[j]? = some x ∧
      h1.get? b = some { cls := .type "tuple", data := .seq #[Value.ref x.2.1, v] } := by
    intro j b hj
    obtain ⟨en, hg⟩ := g.pairs j b hj
    have e2 := entry_at hes j
    rw [Array.getElem?_eq_getElem en] at e2
    cases e3 : vs[j]? with
    | none => rw [e3] at e2; cases e2
    | some y =>
      rw [e3] at e2
      have e2 := Option.some.inj e2
      obtain ⟨x, ex, r1, r2, r3⟩ := L2.DX.pget rel e3
      obtain ⟨e, ee, h2⟩ := L2.DX.pget N.rel ex
      refine ⟨e, x, y.2.2, ee, h2, r3, ex, ?_⟩
      rw [hg, e2, r2]
      rfl
  obtain ⟨H1, I2, gr, tk2⟩ := L2.DX.takeT (P := fun b ws => ∀ j, as[j]? = some b → ∃ (e : NestedKey × Vl) (x : NestedKey × Addr × V), kvs[j]? = some e ∧ (Rep X.K ρ H (keyVl e.1) (.ref x.2.1) ∧ Rep X.K ρ H e.2 x.2.2) ∧ ws = [V.ref x.2.1, x.2.2]) I as H I1 nd fun b hb => by
    obtain ⟨j, hj⟩ := List.mem_iff_getElem?.mp hb
    obtain ⟨e, x, v, h2, h3, h4, h5, h6⟩ := pr j b hj
    refine ⟨Nat.le_of_lt (g.above b hb), I.hok.fresh (Nat.le_of_lt (g.above b hb)), [V.ref x.2.1, x.2.2], fun i hi => ?_, fun H2 => ⟨(show 2 ≤ sizeLine by rw [sizeLine_eq]; decide), [Value.ref x.2.1, v], .cons rfl (.cons h4 .nil), ⟨_, h6, rfl, _, rfl⟩⟩⟩
    have : i = j := (List.getElem?_inj (List.getElem?_eq_some_iff.mp hi).1 nd).mp (hi.trans hj.symm)
    subst this
    exact ⟨e, x, h2, ⟨h3.2.1.1, h3.2.2⟩, rfl⟩
  have gw : Grow X.K ρ H ρ H1 := ⟨⟨[], by simp⟩, fun b ys hs => by
    rcases hs with (h | ⟨o, h⟩) | h
    · exact .inl (.inl (gr _ _ h))
    · exact .inl (.inr ⟨o, gr _ _ h⟩)
    · exact .inr h, fun b o u h => gr _ _ h⟩
  refine ⟨H1, ρ, kvs.map itemV, ds, I2, ?_, hds, hok, by rw [List.length_map, N.len]; exact z, q H1 gr⟩
  have hkl : as.length = kvs.length := by rw [N.len]; omega
  refine PySem.W.EachIs.of_zip (by rw [List.length_map, List.length_map]; exact hkl) fun pq hpq => ?_
  obtain ⟨j, hj⟩ := List.mem_iff_getElem?.mp hpq
  rw [List.getElem?_zip_eq_some] at hj
  obtain ⟨j1, j2⟩ := hj
  rw [List.getElem?_map, Option.map_eq_some_iff] at j1 j2
  obtain ⟨b, hb, eb⟩ := j1
  obtain ⟨e, he, ee⟩ := j2
  obtain ⟨ws, hP, hH⟩ := tk2 b (List.mem_of_getElem? hb)
  obtain ⟨e', x, he', ⟨r1, r2⟩, rfl⟩ := hP j hb
  rw [he] at he'; cases he'
  refine ⟨.ref b, ?_, by rw [← eb]; rfl⟩
  rw [← ee]
  exact .tup (.inl (.inl hH)) (.cons (r1.grow gw) (.cons (r2.grow gw) .nil))
end
/-! methods of dicts -/
def tyD (K : PySem.W.Frag) (x : V) (H : Hp) : Prop := tyV K "dict" x H ∨ (∃ p xs, x = .ref p ∧ (H p = some (.ext (NdAt p xs)) ∨ ∃ o, H p = some (.frz o (.ext (NdAt p xs))))) ∨ ∃ p ks o, x = .ref p ∧ H p = some (.frz o (.dK ks))
theorem tyD_is {X : Cx} {pins : List (Addr × Obj)} {σ : L2.St} {H : Hp} {s : Shared} {x : V} {v : Value} (I : Inv X pins σ H s) (r : RelV x v) (ty : tyD X.K x H) :
    s.TypeIs v "dict" ∧ ∀ a, v = .ref a → ∃ ob, s.heap.get? a = some ob ∧ ob.dict = none := by
  rcases ty with ty | ⟨p, xs, rfl, e⟩ | ⟨p, ks, o, rfl, e⟩
  · exact tyV_is I r ty
  · obtain rfl : v = Value.ref p := r
    have hx : NdAt p xs s.heap := by
      rcases e with e | ⟨o, e⟩
      · exact (I.hok _ _ e).1
      · exact (I.hok _ _ e).2.1
    obtain ⟨z, hd, vs, rel, o, es, ep, h1, h2, h3, h4, h5⟩ := hx
    refine ⟨⟨o, h1, h2.1⟩, fun a ea => ?_⟩
    cases ea
    exact ⟨o, h1, h2.2.1⟩
  · obtain rfl : v = Value.ref p := r
    obtain ⟨_, hd, vs, rel, dd⟩ := L2.dk_rd I.hok (.inr ⟨o, e⟩)
    refine ⟨dd.typeIs, fun a ea => ?_⟩
    cases ea
    exact dd.mapOf.noDict p rfl
def tDM0 (K : PySem.W.Frag) (r : V → List V → Hp → VK → Prop) (to : TE) : TE := fun σ H Q => to σ H fun x H1 => tyD K x H1 ∧ r x [] H1 Q
def tDM (K : PySem.W.Frag) (r : V → List V → Hp → VK → Prop) (to : TE) (t : TA) : TE := fun σ H Q => to σ H fun x H1 => tyD K x H1 ∧ t σ H1 fun xs H2 => r x xs H2 Q
section
variable {X : Cx} {o e : Expr} {es : List Expr} {to : TE} {t : TA} {name : Str} {apos cpos : Pos} {id : String} {r : V → List V → Hp → VK → Prop}
theorem pe_dm0 (slot : Slot "dict" name id) (hty : typeOf (.builtin id) = pure (.type "method_descriptor")) (hm : MtR X id r) (ho : PE X o to)
    (hbase : attributeBase o name X.env (eval o X.env) = eval o X.env) (hline : (apos.endLine == cpos.line) = true) : PE X (.Call (.Attribute o name apos) [] [] cpos) (tDM0 X.K r to) := by
  refine ⟨fun pins s σ H Q I h => ?_⟩
  refine wpAny_Call_method0_late hbase hline (thn (ho.run pins s σ H _ I h) fun v s1 ⟨x, H1, I1, r1, ty, q1⟩ => ?_)
  obtain ⟨h1, h2⟩ := tyD_is I1 r1 ty
  exact ⟨"dict", id, PySem.F.plainAttrs_dict, slot, hty, h1, h2, Calls.callWith_builtin rfl (PySem.evalArgs_none (hm pins s1 σ H1 x [] v [] Q I1 r1 .nil q1))⟩
theorem pe_dm (slot : Slot "dict" name id) (hty : typeOf (.builtin id) = pure (.type "method_descriptor")) (hm : MtR X id r) (ho : PE X o to) (ha : PA X (e :: es) t)
    (hbase : attributeBase o name X.env (eval o X.env) = eval o X.env)
    (hfew : ((backTo cpos (starEach (e :: es) X.env)).all (fun x => !x.1) && (backToKw cpos (keywordEach [] X.env)).all (fun x => x.1.isSome)
      && decide ((e :: es).length + ([] : List Keyword).length + (if ([] : List Keyword).isEmpty then 0 else 1) < 30)) = true)
    (hline : (apos.endLine == cpos.line) = true) (hs : starEach (e :: es) X.env = (false, eval e X.env) :: starEach es X.env) (hplain : (backTo cpos (starEach es X.env)).any (·.1) = false) :
    PE X (.Call (.Attribute o name apos) (e :: es) [] cpos) (tDM X.K r to t) := by
  refine ⟨fun pins s σ H Q I h => ?_⟩
  refine wpAny_Call_method_late hbase hfew hline rfl (thn (ho.run pins s σ H _ I h) fun v s1 ⟨x, H1, I1, r1, ty, q1⟩ => ?_)
  obtain ⟨h1, h2⟩ := tyD_is I1 r1 ty
  refine ⟨"dict", id, PySem.F.plainAttrs_dict, slot, hty, h1, h2, ?_⟩
  have hA := ha.run cpos pins s1 σ H1 _ I1 q1
  rw [hs] at hA ⊢
  refine Calls.callWith_builtin (by show (false || (backTo cpos (starEach es X.env)).any (·.1)) = false; rw [hplain] <;> rfl) (Calls.evalArgs_plain ?_)
  exact thn hA fun us s2 ⟨vs, H2, I2, r2, q2⟩ => hm pins s2 σ H2 x vs v us Q I2 r1 r2 q2
end
/-- d.items(): the view -/
def rItemsN (K : PySem.W.Frag) : V → List V → Hp → VK → Prop := fun x xs H Q => ∃ (a : Addr) (ρ : List Addr) (kvs : List (NestedKey × Vl)) (ys : List (NestedKey × Addr × V)), x = .ref a ∧ xs = [] ∧ NdX K ρ H kvs a ys ∧ ∀ p, H p = none → Q (.ref p) (upd H p (L2.DX.itemsO p a))
theorem mt_itemsN {X : Cx} : MtR X "dict.items" (rItemsN X.K) := by
  intro pins s σ H x xs v us Q I rx rxs h
  obtain ⟨a, ρ, kvs, ys, rfl, rfl, N, q⟩ := h
  cases rx
  cases rxs
  obtain ⟨z, hd, vs, rel, dd, _⟩ := N.now I
  obtain ⟨o, es, ep, ho, hx, hdat, hes, his, hn⟩ := dd
  refine DT.callItems (es := es) (ep := ep) hd ⟨o, ho, hx, hdat⟩ ?_
  have hf : H s.heap.objs.size = none := I.hok.fresh (Nat.le_refl _)
  exact ⟨.ref s.heap.objs.size, upd H s.heap.objs.size (L2.DX.itemsO s.heap.objs.size a), I.laid (t' := s.toks) (fun b u e => Heap.get?_push_of_some _ e) (Nat.le_refl _) (L2.DX.itemsO_ok (Heap.get?_push_size _ rfl)), rfl, q _ hf⟩
/-- .. of a dict with keys of one part -/
def rItemsK : V → List V → Hp → VK → Prop := fun x xs H Q => ∃ (a : Addr) (ks : List (Key × V)), x = .ref a ∧ xs = [] ∧ Rd H a (.dK ks) ∧ ∀ p, H p = none → Q (.ref p) (upd H p (L2.DX.itemsO p a))
theorem mt_itemsK {X : Cx} : MtR X "dict.items" rItemsK := by
  intro pins s σ H x xs v us Q I rx rxs h
  obtain ⟨a, ks, rfl, rfl, hd, q⟩ := h
  cases rx
  cases rxs
  obtain ⟨_, hs, vs, kv, o, es, ep, ho, hx, hdat, _⟩ := L2.dk_rd I.hok hd
  refine DT.callItems (es := es) (ep := ep) hs ⟨o, ho, hx, hdat⟩ ?_
  have hf : H s.heap.objs.size = none := I.hok.fresh (Nat.le_refl _)
  exact ⟨.ref s.heap.objs.size, upd H s.heap.objs.size (L2.DX.itemsO s.heap.objs.size a), I.laid (t' := s.toks) (fun b u e => Heap.get?_push_of_some _ e) (Nat.le_refl _) (L2.DX.itemsO_ok (Heap.get?_push_size _ rfl)), rfl, q _ hf⟩
theorem mt_itemsA {X : Cx} : MtR X "dict.items" (fun x xs H Q => rItemsN X.K x xs H Q ∨ rItemsK x xs H Q) := MtR.or mt_itemsN mt_itemsK
/-! the type of such a dict -/
def TyZ (K : PySem.W.Frag) (H : Hp) (x : V) (t : Value) : Prop := TyX K H x t ∨ (t = .type "dict" ∧ ∃ a xs, x = .ref a ∧ (H a = some (.ext (NdAt a xs)) ∨ ∃ o, H a = some (.frz o (.ext (NdAt a xs)))))
theorem kit_ofZ {X : Cx} {pins : List (Addr × Obj)} {σ : L2.St} {H : Hp} {s : Shared} {x : V} {u t : Value} (I : Inv X pins σ H s) (rx : RelV x u) (ty : TyZ X.K H x t) : ∃ P : Heap → Prop, PySem.W.KitX X.K u t P ∧ P s.heap ∧ u ≠ .builtin "__main__.__loader__#opaque" := by
  rcases ty with ty | ⟨rfl, a, xs, rfl, e⟩
  · exact kit_of I rx ty
  · cases (show u = Value.ref a from rx)
    have hx : NdAt a xs s.heap := by
      rcases e with e | ⟨o, e⟩
      · exact (I.hok _ _ e).1
      · exact (I.hok _ _ e).2.1
    obtain ⟨z, hd, vs, rel, o, es, ep, h1, h2, _⟩ := hx
    exact ⟨_, PySem.W.kitx_dict, ⟨o, h1, h2.1⟩, fun z => nomatch z⟩
def rIsiZ (K : PySem.W.Frag) : List V → Hp → VK → Prop := fun xs H Q => ∃ (x c : V) (t u : Value) (b : Bool), xs = [x, c] ∧ ClsV c u ∧ TyZ K H x t ∧ PySem.W.kitOne K t u = some b ∧ Q (.bl b) H
def rIsiTZ (K : PySem.W.Frag) : List V → Hp → VK → Prop := fun xs H Q => ∃ (x : V) (tp : Addr) (cs : List V) (t : Value) (us : List Value) (b : Bool), xs = [x, .ref tp] ∧ H tp = some (.tup cs) ∧ Paired ClsV cs us ∧ TyZ K H x t ∧ PySem.W.kitAny K t us = some b ∧ Q (.bl b) H
theorem call_isiZ {X : Cx} : CallR X (.builtin "isinstance") (rIsiZ X.K) := by
  intro pins s σ H xs us Q I r h
  obtain ⟨x, c, t, u, b, rfl, k, ty, e, q⟩ := h
  obtain ⟨u1, u2, rfl, r1, r2⟩ := vals2 r
  have e2 := k.eq r2
  subst e2
  obtain ⟨P, Z, p, hx⟩ := kit_ofZ I r1 ty
  exact PySem.W.kia_one Z I.kIn p e hx fun tk => ⟨.bl b, H, I.tok tk, rfl, q⟩
theorem call_isiTZ {X : Cx} : CallR X (.builtin "isinstance") (rIsiTZ X.K) := by
  intro pins s σ H xs us Q I r h
  obtain ⟨x, tp, cs, t, ws, b, rfl, hT, k, ty, e, q⟩ := h
  obtain ⟨u1, u2, rfl, r1, r2⟩ := vals2 r
  cases (show u2 = Value.ref tp from r2)
  obtain ⟨P, Z, p, hx⟩ := kit_ofZ I r1 ty
  obtain ⟨_, its, rv, o, h1, h2, n, h3⟩ := (show ObjOk X.prog X.w H s.heap tp (.tup cs) from I.hok tp _ hT)
  have e3 := ClsV.all k rv
  subst e3
  obtain ⟨oc, od, dt, sl⟩ := o
  simp only at h2 h3
  subst h2 h3
  exact PySem.W.kia_tup Z I.kIn p h1 e hx fun tk => ⟨.bl b, H, I.tok tk, rfl, q⟩
/-! more is tracked -/
section
variable {K : PySem.W.Frag} {ρ : List Addr} {H H1 : Hp} {μ : Mem}
theorem Grow.more (k : ∀ b o, H b = some o → H1 b = some o) : Grow K ρ H ρ H1 := ⟨⟨[], by simp⟩, fun b ys hs => by
  rcases hs with (h | ⟨o, h⟩) | h
  · exact .inl (.inl (k _ _ h))
  · exact .inl (.inr ⟨o, k _ _ h⟩)
  · exact .inr h, fun b o u h => k _ _ h⟩
theorem MemOk.more (m : MemOk K ρ H μ) (k : ∀ b o, H b = some o → H1 b = some o) : MemOk K ρ H1 μ := ⟨m.len, fun i o e => by
  obtain ⟨b, e1, ok⟩ := m.at' i o e
  refine ⟨b, e1, ok.grow (Grow.more k) (fun xs q => ?_) fun mo w q mu => k _ _ q⟩
  rcases q with ⟨o, q⟩ | q
  · exact .inl ⟨o, k _ _ q⟩
  · exact .inr q, m.nd⟩
theorem NdX.more {kvs : List (NestedKey × Vl)} {a : Addr} {xs : List (NestedKey × Addr × V)} (N : NdX K ρ H kvs a xs) (k : ∀ b o, H b = some o → H1 b = some o) : NdX K ρ H1 kvs a xs := by
  rcases N with ⟨e, e2⟩ | ⟨e, r⟩
  · exact .inl ⟨k _ _ e, e2⟩
  · exact .inr ⟨e.imp (k _ _) (fun ⟨o, e⟩ => ⟨o, k _ _ e⟩), Paired.mapQ (fun p q z => ⟨z.1, ⟨z.2.1.1.grow (Grow.more k), z.2.1.2⟩, z.2.2.grow (Grow.more k)⟩) r⟩
theorem NdX.ty {kvs : List (NestedKey × Vl)} {a : Addr} {xs : List (NestedKey × Addr × V)} (N : NdX K ρ H kvs a xs) : tyD K (.ref a) H := by
  rcases N with ⟨e, _⟩ | ⟨e, _⟩
  · exact .inl (.inr (.inr (.inl ⟨rfl, .inl ⟨_, e⟩⟩)))
  · exact .inr (.inl ⟨a, xs, rfl, e⟩)
theorem upd_more {p : Addr} {o : HO} (h : H p = none) : ∀ b u, H b = some u → upd H p o b = some u := fun b u e => by rw [upd_ne (ne_of_none e h)]; exact e
end
def rSrtIt (K : PySem.W.Frag) : List V → Hp → VK → Prop := fun us H Q => ∃ (p a : Addr) (ρ : List Addr) (kvs : List (NestedKey × Vl)) (xs : List (NestedKey × Addr × V)) (ds : List PyData), us = [.ref p] ∧ H p = some (L2.DX.itemsO p a) ∧ NdX K ρ H kvs a xs ∧
  optAll (toK 10) (kvs.map itemV) = some ds ∧ srtOk ds = true ∧ ∀ H1, (∀ b o, H b = some o → H1 b = some o) → ∀ zs p, Reps K ρ H1 (srtV (kvs.map itemV)) zs → H1 p = none → Q (.ref p) (upd H1 p (.lst zs))
theorem cr_srtIt {X : Cx} (hc : X.calm = true) (hu : X.A.units + 65 < cLine) : CallR X (.builtin "sorted") (rSrtIt X.K) := by
  intro pins s σ H xs us Q I r h
  obtain ⟨p, a, ρ, kvs, ys, ds, rfl, hp, N, h1, h2, q⟩ := h
  rw [Vals.ref1 r]
  exact srt_items hc hu I hp N h1 h2 q
theorem pe_srtItems {X : Cx} {o : Expr} {to : TE} {apos cpos p pos : Pos} (hc : X.calm = true) (hu : X.A.units + 65 < cLine) (hg : Gl X "sorted") (hm : X.mg "sorted" = none) (ho : PE X o to)
    (hbase : attributeBase o "items" X.env (eval o X.env) = eval o X.env) (hline : (apos.endLine == cpos.line) = true) :
    PE X (.Call (.Name "sorted" p) [.Call (.Attribute o "items" apos) [] [] cpos] [] pos) (tCB (rSrtIt X.K) (tCons (tDM0 X.K (rItemsN X.K) to) tNil)) :=
  pe_callB (cr_srtIt hc hu) hg hm (by decide +kernel) (pa_cons (pe_dm0 PySem.F.slot_dict_items PySem.F.type_dict_items mt_itemsN ho hbase hline) pa_nil rfl) (by decide) (by decide) rfl rfl
end PV

/-! own rules: such a dict walked, shown as a display, asked whether it is empty -/
namespace PV
open PySem PySem.Spec PyProof.Rows L2
/-- it is not written any more -/
theorem nd_freeze {X : Cx} {pins : List (Addr × Obj)} {σ : L2.St} {H : Hp} {s : Shared} {ρ : List Addr} {kvs : List (NestedKey × Vl)} {a : Addr} {xs : List (NestedKey × Addr × V)} (I : Inv X pins σ H s) (N : NdX X.K ρ H kvs a xs) :
    ∃ o H1, Inv X pins σ H1 s ∧ H1 a = some (.frz o (.ext (NdAt a xs))) ∧ Grow X.K ρ H ρ H1 ∧ (∀ b, b ≠ a → H1 b = H b) := by
  rcases N with ⟨e, rfl, rfl⟩ | ⟨e | ⟨o, e⟩, r⟩
  · obtain ⟨z, hd, vs, rel, o, es, ep, h1, h2, h3, h4⟩ := L2.dk_of I.hok e
    cases rel
    have he : es.toList = [] := by
      have := h4.2.1
      cases this' : es.toList with
      | nil => rfl
      | cons c l => rw [this'] at this; cases this
    have mu : Mut (H a) := by rw [e]; trivial
    have nd : NdAt a [] s.heap := ⟨by simp, hd, [], .nil, o, es, ep, h1, h2, h3, fun P w => by rw [he]; rfl, by simp⟩
    refine ⟨o, upd H a (.frz o (.ext (NdAt a []))), ?_, upd_same, grow_upd (.inr mu), fun b hb => upd_ne hb⟩
    exact I.write (h' := s.heap) (t' := s.toks) mu (.inl rfl) (fun b u _ q => q) ⟨o, h1⟩ ⟨h1, nd, ⟨o, h1⟩, fun h1 h2 ⟨q1, q2, q3, q4, q5, q6, q7, q8, q9⟩ hk => ⟨q1, q2, q3, q4, q5, q6, q7, hk _ q8, q9⟩⟩
  · have mu : Mut (H a) := by rw [e]; trivial
    obtain ⟨nd, ⟨o, ho⟩, st⟩ := I.hok _ _ e
    refine ⟨o, upd H a (.frz o (.ext (NdAt a xs))), ?_, upd_same, grow_upd (.inr mu), fun b hb => upd_ne hb⟩
    exact I.write (h' := s.heap) (t' := s.toks) mu (.inl rfl) (fun b u _ q => q) ⟨o, ho⟩ ⟨ho, nd, ⟨o, ho⟩, st⟩
  · exact ⟨o, H, I, e, Grow.refl, fun _ _ => rfl⟩
theorem MemOk.freeze {K : PySem.W.Frag} {ρ : List Addr} {H H1 : Hp} {μ : Mem} {r : Nat} {a : Addr} {o : Obj} {kvs : List (NestedKey × Vl)} {xs : List (NestedKey × Addr × V)} (m : MemOk K ρ H μ) (h : ndAt μ r = some kvs) (ha : ρ[r]? = some a) (N : NdX K ρ H kvs a xs)
    (e : H1 a = some (.frz o (.ext (NdAt a xs)))) (g : Grow K ρ H ρ H1) (k : ∀ b, b ≠ a → H1 b = H b) : MemOk K ρ H1 (μ.set r (.nfz kvs)) := by
  have new : ObOk K ρ H1 (.nfz kvs) a := ⟨o, xs, e, Paired.mapQ (fun p q z => ⟨z.1, ⟨z.2.1.1.grow g, z.2.1.2⟩, z.2.2.grow g⟩) N.rel0⟩
  rcases nd_at h with f | ⟨f, _⟩ | f
  · exact m.turn f rfl rfl ha new g.tups k
  · exact m.turn f rfl rfl ha new g.tups k
  · exact m.turn f rfl rfl ha new g.tups k
/-! walks -/
def Itdk (a : Addr) (o : Obj) (xs : List (NestedKey × Addr × V)) : It :=
  ⟨fun i H => H a = some (.frz o (.ext (NdAt a xs))) ∧ i < xs.length, fun i H x H' => ∃ p, xs[i]? = some p ∧ x = .ref p.2.1 ∧ H' = H, fun i H => H a = some (.frz o (.ext (NdAt a xs))) ∧ xs.length ≤ i⟩
def Itdi (a : Addr) (o : Obj) (xs : List (NestedKey × Addr × V)) : It :=
  ⟨fun i H => H a = some (.frz o (.ext (NdAt a xs))) ∧ i < xs.length, fun i H x H' => ∃ T p, xs[i]? = some p ∧ x = .ref T ∧ H T = none ∧ H' = upd H T (.tup [.ref p.2.1, p.2.2]), fun i H => H a = some (.frz o (.ext (NdAt a xs))) ∧ xs.length ≤ i⟩
section
variable {P : Program} {w : World} {K : PySem.W.Frag} {a : Addr} {o : Obj} {xs : List (NestedKey × Addr × V)} {vs : List (NestedKey × Addr × Value)} {es : Array DictEntry} {ep : Nat}
theorem raw_frz {X : Cx} {pins : List (Addr × Obj)} {σ : L2.St} {H : Hp} {s : Shared} (I : Inv X pins σ H s) (e : H a = some (.frz o (.ext (NdAt a xs)))) (hx : o.ExactDict) (hd : o.data = .dict es ep) : s.heap.DictRaw a es ep := ⟨o, (I.hok a _ e).1, hx, hd⟩
theorem turn_dk {tg : Expr} (it : Addr) (hx : o.ExactDict) (hd : o.data = .dict es ep) (he : es.toList = vs.map (entryOfKey (nestedKind P w))) (r : NV xs vs) :
    Turn P w K tg (Itdk a o xs) [it] it (fun i h => h.IsKeyIter it a i es.size ep) where
  mem := by simp
  obj := fun i h st b hb => by
    have e : b = it := by simpa using hb
    subst e
    obtain ⟨ob, e1, e2, e3⟩ := st
    exact ⟨ob, e1, fun v z => by rw [e3] at z; cases z⟩
  keep := fun i h h' st k => st.at fun ob e => k it (by simp) ob e
  item := by
    intro X hP hw hK hc i pins s σ H E I hf st hg
    subst hP hw hK
    obtain ⟨e, hi⟩ := hg
    obtain ⟨f0, f1, f2, f3, f4, f5⟩ := hf it (by simp)
    have hsz : es.size = vs.length := size_of_entries he
    have hl := Paired.length r
    have hi2 : i < es.size := by omega
    refine wpAny_pyNext_keys_item_raw st (raw_frz I e hx hd) hi2 fun h' hit' hs' => ?_
    have I1 : Inv X pins σ H { s with heap := h' } := I.turned (t' := s.toks) (fun b ob hb q => (hs'.2 b hb).trans q) f0 f1 f3 f4 f5
    obtain ⟨ob, g1, g2, g3⟩ := id hit'
    refine ⟨_, rfl, go_of (s := { s with heap := h' }) (n := "dict_keyiterator") g1 g2 g3 (by decide) ?_⟩
    have e2 := entry_at he i
    rw [Array.getElem?_eq_getElem hi2] at e2
    cases e3 : vs[i]? with
    | none => rw [e3] at e2; cases e2
    | some y =>
      rw [e3] at e2
      have e2 := Option.some.inj e2
      obtain ⟨x, ex, r1, r2, r3⟩ := L2.DX.pget r e3
      refine ⟨.ref x.2.1, H, I1, ?_, ⟨x, ex, rfl, rfl⟩, hit', fun b hb => (hf b hb).1⟩
      rw [e2]
      show Value.ref y.2.1 = Value.ref x.2.1
      rw [r2]
  done := by
    intro X hP hw hK hc i pins s σ H E I hf st hg
    subst hP hw hK
    obtain ⟨e, hi⟩ := hg
    obtain ⟨f0, f1, f2, f3, f4, f5⟩ := hf it (by simp)
    have hsz : es.size = vs.length := size_of_entries he
    have hl := Paired.length r
    exact wpAny_pyNext_keys_end_raw (I.ok.hd hc) st (raw_frz I e hx hd) (by omega) fun h' eb => ⟨rfl, I.turned (t' := s.toks) (fun b ob hb e => eb b ob hb e) f0 f1 f3 f4 f5⟩
  self := fun A i s Q E st h => wpAny_pyIter_keyiter st h
theorem turn_di {elts : List Expr} {kk : Nat} {tpos : Pos} (it : Addr) (hx : o.ExactDict) (hd : o.data = .dict es ep) (he : es.toList = vs.map (entryOfKey (nestedKind P w))) (r : NV xs vs) :
    Turn P w K (.Tuple elts kk tpos) (Itdi a o xs) [it] it (fun i h => ∃ ok ov, IsItemIter h it a i es.size ep ok ov) where
  mem := by simp
  obj := fun i h st b hb => by
    have e : b = it := by simpa using hb
    subst e
    obtain ⟨ok, ov, e⟩ := st
    exact ⟨_, e, fun v z => nomatch z⟩
  keep := fun i h h' st k => let ⟨ok, ov, e⟩ := st; ⟨ok, ov, k it (by simp) _ e⟩
  item := by
    intro X hP hw hK hc i pins s σ H E I hf st hg
    subst hP hw hK
    obtain ⟨e, hi⟩ := hg
    have hsz : es.size = vs.length := size_of_entries he
    have hl := Paired.length r
    have hi2 : i < es.size := by omega
    obtain ⟨ok, ov, hit⟩ := st
    have hlt : it < s.heap.objs.size := Heap.lt_size hit
    refine wpAny_pyNext_items_item_raw hit (raw_frz I e hx hd) hi2 fun h' b1 b2 b3 b4 => ?_
    refine ⟨_, rfl, wpAny_letOwnedTupleGo_items (s := { s with heap := h' }) b1 fun h'' he' sb => ?_⟩
    have e2 := entry_at he i
    rw [Array.getElem?_eq_getElem hi2] at e2
    cases e3 : vs[i]? with
    | none => rw [e3] at e2; cases e2
    | some y =>
      rw [e3] at e2
      have e2 := Option.some.inj e2
      obtain ⟨x, ex, r1, r2, r3⟩ := L2.DX.pget r e3
      have hT2 : h''.get? s.heap.objs.size = some { cls := .type "tuple", data := .seq #[Value.ref x.2.1, y.2.2] } := by
        refine (sb.2 _ (Nat.ne_of_gt hlt)).trans (b2.trans ?_)
        rw [e2, r2]
        rfl
      have new : ObjOk X.prog X.w (upd H s.heap.objs.size (.tup [.ref x.2.1, x.2.2])) h'' s.heap.objs.size (.tup [.ref x.2.1, x.2.2]) :=
        ⟨(show 2 ≤ sizeLine by rw [sizeLine_eq]; decide), [Value.ref x.2.1, y.2.2], .cons rfl (.cons r3 .nil), ⟨_, hT2, rfl, _, rfl⟩⟩
      have I1 : Inv X pins σ (upd H s.heap.objs.size (.tup [.ref x.2.1, x.2.2])) { s with heap := h'' } :=
        I.turnedNew (t' := s.toks) (ch := [it]) (fun b ob hb z => (sb.2 b (by simpa using hb)).trans (b4 b ob (by simpa using hb) z)) hf (Nat.le_refl _) new
      refine ⟨.ref s.heap.objs.size, _, I1, rfl, ⟨_, x, ex, rfl, I.hok.fresh (Nat.le_refl _), rfl⟩, ⟨_, _, he'⟩, fun b hb => ?_⟩
      have z : b = it := by simpa using hb
      rw [z, upd_ne (Nat.ne_of_lt hlt)]
      exact (hf it (by simp)).1
  done := by
    intro X hP hw hK hc i pins s σ H E I hf st hg
    subst hP hw hK
    obtain ⟨e, hi⟩ := hg
    obtain ⟨f0, f1, f2, f3, f4, f5⟩ := hf it (by simp)
    have hsz : es.size = vs.length := size_of_entries he
    have hl := Paired.length r
    obtain ⟨ok, ov, hit⟩ := st
    exact wpAny_pyNext_items_end_raw (I.ok.hd hc) hit (raw_frz I e hx hd) (by omega) fun h' eb => ⟨rfl, I.turned (t' := s.toks) (fun b ob hb e => eb b ob hb e) f0 f1 f3 f4 f5⟩
  self := fun A i s Q E st h => let ⟨_, _, e⟩ := st; wpAny_pyIter_itemiter e h
end
/-- at the def's begin it was no thing that is not written -/
def NFz (X : Cx) (a : Addr) : Prop := ∀ o u, X.H_0 a ≠ some (.frz o u)
theorem dk_freeze {X : Cx} {pins : List (Addr × Obj)} {σ : L2.St} {H : Hp} {s : Shared} {a : Addr} {ks : List (Key × V)} (I : Inv X pins σ H s) (e : Rd H a (.dK ks)) :
    ∃ o H1, Inv X pins σ H1 s ∧ H1 a = some (.frz o (.dK ks)) ∧ (∀ K ρ, Grow K ρ H ρ H1) ∧ (∀ b, b ≠ a → H1 b = H b) := by
  rcases e with e | ⟨o, e⟩
  · obtain ⟨o, I1⟩ := I.lock e trivial
    have mu : Mut (H a) := by rw [e]; trivial
    exact ⟨o, _, I1, upd_same, fun _ _ => grow_upd (.inr mu), fun b hb => upd_ne hb⟩
  · exact ⟨o, H, I, e, fun _ _ => Grow.refl, fun _ _ => rfl⟩
theorem nfz_mut {X : Cx} {pins : List (Addr × Obj)} {σ : L2.St} {H : Hp} {s : Shared} {a : Addr} (I : Inv X pins σ H s) (h : Mut (H a)) : NFz X a := by
  cases e : H a with
  | none => rw [e] at h; exact False.elim h
  | some u => rw [e] at h; exact I.nofrz e h
/-- for k in d -/
def iDks (X : Cx) (te : TE) : TI := fun σ H R => te σ H fun x H1 => ∃ a, x = .ref a ∧ ((∃ ρ kvs xs, NdX X.K ρ H1 kvs a xs ∧ ∀ o H2, H2 a = some (.frz o (.ext (NdAt a xs))) → Grow X.K ρ H1 ρ H2 → (∀ b, b ≠ a → H2 b = H1 b) → (Mut (H1 a) → NFz X a) → R (Itdk a o xs) H2) ∨
  ∃ ks, Rd H1 a (.dK ks) ∧ ∀ o H2, H2 a = some (.frz o (.dK ks)) → (∀ K ρ, Grow K ρ H1 ρ H2) → (∀ b, b ≠ a → H2 b = H1 b) → (Mut (H1 a) → NFz X a) → R (Itk a o ks) H2)
theorem pi_dks {X : Cx} {tg e : Expr} {te : TE} (he : PE X e te) : PI X tg e (iDks X te) := by
  refine ⟨fun pins s σ H R I h => thn (he.run pins s σ H _ I h) fun u s1 ⟨x, H1, I1, rx, a, ex, q⟩ => ?_⟩
  subst ex
  obtain rfl : u = Value.ref a := rx
  rcases q with ⟨ρ, kvs, xs, N, q⟩ | ⟨ks, hd, q⟩
  · obtain ⟨o, H2, I2, e2, g, k⟩ := nd_freeze I1 N
    obtain ⟨ho, ⟨z, hd, vs, rel, o', es, ep, h1, h2, h3, h4, h5⟩, _, _⟩ := I2.hok _ _ e2
    have : o' = o := Option.some.inj (h1.symm.trans ho)
    subst this
    refine wpAny_pyIter_dict_raw hd ⟨o', ho, h2, h3⟩ ?_
    exact pi_one (tk := s1.toks) I2 _ (turn_dk _ h2 h3 (h4 _ _) rel) ⟨_, Heap.get?_push_size _ rfl, rfl, rfl⟩ (q o' H2 e2 g k (nfz_mut I1))
  · obtain ⟨o, H2, I2, e2, g, k⟩ := dk_freeze I1 hd
    obtain ⟨hs, hgd, hx, es, ep, vs, hdt, hsz, kv, hm⟩ := I2.frzK e2
    refine iter_keys hs hgd hx hdt (pi_one (tk := s1.toks) I2 _ (turn_keys _ hdt) ⟨_, Heap.get?_push_size _ rfl, rfl, ?_⟩ (q o H2 e2 g k (nfz_mut I1)))
    rw [hsz] <;> rfl
/-- for k, v in d.items(): over the view -/
def iDit (X : Cx) (te : TE) : TI := fun σ H R => te σ H fun x H1 => ∃ p a, x = .ref p ∧ H1 p = some (L2.DX.itemsO p a) ∧ ((∃ ρ kvs xs, NdX X.K ρ H1 kvs a xs ∧ ∀ o H2, H2 a = some (.frz o (.ext (NdAt a xs))) → Grow X.K ρ H1 ρ H2 → (∀ b, b ≠ a → H2 b = H1 b) → (Mut (H1 a) → NFz X a) → R (Itdi a o xs) H2) ∨
  ∃ ks, Rd H1 a (.dK ks) ∧ ∀ o H2, H2 a = some (.frz o (.dK ks)) → (∀ K ρ, Grow K ρ H1 ρ H2) → (∀ b, b ≠ a → H2 b = H1 b) → (Mut (H1 a) → NFz X a) → R (Iti a o ks) H2)
theorem pi_dit {X : Cx} {elts : List Expr} {kk : Nat} {tpos : Pos} {e : Expr} {te : TE} (he : PE X e te) : PI X (.Tuple elts kk tpos) e (iDit X te) := by
  refine ⟨fun pins s σ H R I h => thn (he.run pins s σ H _ I h) fun u s1 ⟨x, H1, I1, rx, p, a, ex, hp, q⟩ => ?_⟩
  subst ex
  obtain rfl : u = Value.ref p := rx
  have view : s1.heap.IsItemsView p a := (show ObjOk X.prog X.w H1 s1.heap p (L2.DX.itemsO p a) from I1.hok p _ hp).1
  rcases q with ⟨ρ, kvs, xs, N, q⟩ | ⟨ks, hd, q⟩
  · obtain ⟨o, H2, I2, e2, g, k⟩ := nd_freeze I1 N
    obtain ⟨ho, ⟨z, hd, vs, rel, o', es, ep, h1, h2, h3, h4, h5⟩, _, _⟩ := I2.hok _ _ e2
    have : o' = o := Option.some.inj (h1.symm.trans ho)
    subst this
    refine wpAny_pyIter_items_raw view ⟨o', ho, h2, h3⟩ ?_
    exact pi_one (tk := s1.toks) I2 _ (turn_di _ h2 h3 (h4 _ _) rel) ⟨_, _, Heap.get?_push_size _ rfl⟩ (q o' H2 e2 g k (nfz_mut I1))
  · obtain ⟨o, H2, I2, e2, g, k⟩ := dk_freeze I1 hd
    obtain ⟨hs, hgd, hx, es, ep, vs, hdt, hsz, kv, hm⟩ := I2.frzK e2
    have hl : ks.length = vs.length := Paired.length kv
    refine wpAny_pyIter_items (d := a) (knd := mixKind X.prog X.w) view hm (pi_one (tk := s1.toks) I2 _ (turn_items _ hdt) ⟨.none, .none, ?_⟩ (q o H2 e2 g k (nfz_mut I1)))
    rw [hl]
    exact Heap.get?_push_size _ rfl
/-- the statement, and what is locked within is unlocked behind, if that is wanted -/
theorem ps_thaw {X : Cx} {st : Stmt} {t : TS} (h : PS X st t) : PS X st (fun D σ H => t ⟨fun σ' H' => D.nx σ' H' ∨ ∃ d od u, H' d = some (.frz od u) ∧ NFz X d ∧ D.nx σ' (upd H' d u), D.rt, D.bk, D.ct⟩ σ H) := by
  refine ⟨fun pins s σ H D I hw => thn (h.run pins s σ H _ I hw) fun f s1 q => ?_⟩
  cases f with
  | next =>
    obtain ⟨σ', H', I2, q⟩ := q
    rcases q with q | ⟨d, od, u, e, hn, q⟩
    · exact ⟨σ', H', I2, q⟩
    · exact ⟨σ', _, I2.unlock e hn, q⟩
  | brk => exact q
  | cont => exact q
  | ret v => exact q
/-! == {} -/
section
variable {prog : Program} {w : World} {A : Around} {E : Value → Shared → Prop} {s : Shared}
theorem sameE {nm : String} {a b : Addr} {es es' : Array DictEntry} {ep ep' : Nat} {Q : Bool → Shared → Prop} (ha : (a == sysModules) = false) (hb : (b == sysModules) = false) (da : s.heap.DictRaw a es ep) (db : s.heap.DictRaw b es' ep') (h0 : es'.size = 0) (h : Q (es.size == 0) s) :
    wpAny (model prog w) A (Builtin.Dict.samePairs nm a b) Q E s := by
  obtain ⟨oa, hoa, _, hda⟩ := da
  obtain ⟨ob, hob, _, hdb⟩ := db
  unfold Builtin.Dict.samePairs Builtin.Dict.showsAll
  rw [if_neg (show ¬ (a == sysModules) = true by rw [ha]; exact Bool.false_ne_true), if_neg (show ¬ (b == sysModules) = true by rw [hb]; exact Bool.false_ne_true)]
  refine wpAny_bind (wpAny_pure (wpAny_bind (wpAny_pure ?_)))
  refine wpAny_bind (wpAny_dictEntries hoa hda ?_)
  dsimp only
  refine wpAny_bind (wpAny_dictEntries hob hdb ?_)
  by_cases hsz : es.size = es'.size
  case neg =>
    rw [if_pos (by simpa using hsz)]
    have hbf : (es.size == 0) = false := by rw [beq_eq_false_iff_ne]; omega
    rw [hbf] at h
    exact wpAny_bind (wpAny_rule (wpAny_pure h))
  case pos =>
    have h' : Q true s := by
      have : (es.size == 0) = true := by rw [beq_iff_eq]; omega
      rwa [this] at h
    rw [if_neg (by rw [hsz]; simp)]
    refine wpAny_bind (wpAny_dictEpoch hoa hda ?_)
    refine wpAny_bind ?_
    rw [Std.Legacy.Range.forIn_eq_forIn_range']
    simp only [Std.Legacy.Range.size, Nat.sub_zero, Nat.add_sub_cancel, Nat.div_one]
    rw [show es.size = 0 by omega]
    exact wpAny_pure (wpAny_pure h')
theorem eq_raw {a b : Addr} {es es' : Array DictEntry} {ep ep' : Nat} {Q : Value → Shared → Prop} (ha : (a == sysModules) = false) (hb : (b == sysModules) = false) (da : s.heap.DictRaw a es ep) (db : s.heap.DictRaw b es' ep') (h0 : es'.size = 0) (hu : A.units < cLine) (h : Q (.bool (es.size == 0)) s) :
    wpAny (model prog w) A (compareOp .Eq (.ref a) (.ref b)) Q E s := by
  refine wpAny_richCompare_same_room (op := .Eq) da.typeIs db.typeIs PySem.F.slot_dict_eq (wpAny_call_entry PySem.F.slot_dict_eq da.typeIs PySem.F.entry_dict_eq ?_ (PySem.F.args_dict_eq_2 _ _)) hu
  show wpAny _ _ (Builtin.Dict.dictSlotArgs "__eq__" ⟨[.ref a, .ref b], []⟩ >>= _) _ _ s
  refine wpAny_bind ?_
  unfold Builtin.Dict.dictSlotArgs
  refine wpAny_bind (wpAny_notOrdered_dict da.typeIs ?_)
  show wpAny _ _ (pure (Value.ref a, Value.ref b)) _ _ s
  refine wpAny_pure ?_
  refine wpAny_bind (wpAny_isInstance (T := "dict") db.typeIs PySem.F.sub_dict_dict ?_)
  simp only [Bool.not_true, Bool.false_eq_true, if_false]
  refine wpAny_bind (wpAny_pure (wpAny_bind (wpAny_pure ?_)))
  refine wpAny_bind (sameE ha hb da db h0 ?_)
  refine wpAny_pure ⟨_, rfl, ?_, ?_⟩
  · exact fun x => nomatch x
  · simpa using h
theorem ne_raw {a b : Addr} {es es' : Array DictEntry} {ep ep' : Nat} {Q : Value → Shared → Prop} (ha : (a == sysModules) = false) (hb : (b == sysModules) = false) (da : s.heap.DictRaw a es ep) (db : s.heap.DictRaw b es' ep') (h0 : es'.size = 0) (hu : A.units < cLine) (h : Q (.bool (!(es.size == 0))) s) :
    wpAny (model prog w) A (compareOp .NotEq (.ref a) (.ref b)) Q E s := by
  refine wpAny_richCompare_same_room (op := .NotEq) da.typeIs db.typeIs PySem.F.slot_dict_ne (wpAny_call_entry PySem.F.slot_dict_ne da.typeIs PySem.F.entry_dict_ne ?_ (PySem.F.args_dict_ne_2 _ _)) hu
  show wpAny _ _ (Builtin.Dict.dictSlotArgs "__ne__" ⟨[.ref a, .ref b], []⟩ >>= _) _ _ s
  refine wpAny_bind ?_
  unfold Builtin.Dict.dictSlotArgs
  refine wpAny_bind (wpAny_notOrdered_dict da.typeIs ?_)
  show wpAny _ _ (pure (Value.ref a, Value.ref b)) _ _ s
  refine wpAny_pure ?_
  refine wpAny_bind (wpAny_isInstance (T := "dict") db.typeIs PySem.F.sub_dict_dict ?_)
  simp only [Bool.not_true, Bool.false_eq_true, if_false]
  refine wpAny_bind (wpAny_pure (wpAny_bind (wpAny_pure ?_)))
  refine wpAny_bind (sameE ha hb da db h0 ?_)
  refine wpAny_pure ⟨_, rfl, ?_, ?_⟩
  · exact fun x => nomatch x
  · simpa using h
end
section
variable {X : Cx} {pins : List (Addr × Obj)} {σ : L2.St} {H : Hp} {s : Shared} {ρ : List Addr} {kvs : List (NestedKey × Vl)} {a b : Addr} {xs ys : List (NestedKey × Addr × V)} {E : Value → Shared → Prop}
theorem nd_raw (I : Inv X pins σ H s) (N : NdX X.K ρ H kvs a xs) : (a == sysModules) = false ∧ ∃ es ep, s.heap.DictRaw a es ep ∧ es.size = kvs.length := by
  obtain ⟨z, hd, vs, rel, dd, _⟩ := N.now I
  obtain ⟨o, es, ep, ho, hx, hdat, hes, his, hn⟩ := dd
  exact ⟨hd, es, ep, ⟨o, ho, hx, hdat⟩, by rw [size_of_entries hes, ← Paired.length rel, N.len]⟩
theorem nd_eqE {Q : Value → Shared → Prop} (hu : X.A.units < cLine) (I : Inv X pins σ H s) (N : NdX X.K ρ H kvs a xs) (M : NdX X.K ρ H [] b ys) (q : Q (.bool kvs.isEmpty) s) : wpAny (model X.prog X.w) X.A (compareOp .Eq (.ref a) (.ref b)) Q E s := by
  obtain ⟨ha, es, ep, da, e1⟩ := nd_raw I N
  obtain ⟨hb, es', ep', db, e2⟩ := nd_raw I M
  refine eq_raw ha hb da db e2 hu ?_
  rw [e1]
  cases kvs <;> exact q
theorem nd_neE {Q : Value → Shared → Prop} (hu : X.A.units < cLine) (I : Inv X pins σ H s) (N : NdX X.K ρ H kvs a xs) (M : NdX X.K ρ H [] b ys) (q : Q (.bool (!kvs.isEmpty)) s) : wpAny (model X.prog X.w) X.A (compareOp .NotEq (.ref a) (.ref b)) Q E s := by
  obtain ⟨ha, es, ep, da, e1⟩ := nd_raw I N
  obtain ⟨hb, es', ep', db, e2⟩ := nd_raw I M
  refine ne_raw ha hb da db e2 hu ?_
  rw [e1]
  cases kvs <;> exact q
end
/-! {k: v} -/
def tDisp1 (K : PySem.W.Frag) (tk tv : TE) : TE := fun σ H Q => ∀ p, H p = none → tk σ (upd H p (.dK [])) fun x H1 => tv σ H1 fun y H2 => ∃ ρ k b, NdM K ρ H2 [] p [] ∧ x = .ref b ∧ nkOf (keyVl k) = some k ∧ Rep K ρ H2 (keyVl k) (.ref b) ∧ Q (.ref p) (upd H2 p (.ext (NdAt p [(k, b, y)])))
theorem wpAny_Dict_pairsX {prog : Program} {w : World} {K : Type} [DecidableEq K] {knd : HeapKind prog w K} {A : Around} {E : Value → Shared → Prop} {s : Shared} {env : Env} {keys : List (Option Expr)} {values : List Expr} {pos : Pos} {pairs : List (Sem Value × Sem Value)} {Q : Value → Shared → Prop} (hu : knd.room A)
    (hshape : (evalEachOpt keys env).zip ((evalEach values env).map fun v => do let x ← v; standAt pos; pure x) = pairs.map fun p => (some p.1, p.2)) (h0 : pairs ≠ []) (hlen : pairs.length ≤ 15)
    (h : wpAny (model prog w) A (evalPairs pairs) (fun vs s₁ => ∃ ps, CarriesH knd s₁.heap vs ps ∧ s₁.heap.DictOfH knd s.heap.objs.size [] ∧
      ∀ h' tk, h'.DictOfH knd s.heap.objs.size (storedAllH [] ps) → Heap.SameBut s.heap.objs.size s₁.heap h' → Q (.ref s.heap.objs.size) { s₁ with heap := h', toks := tk }) E
      { s with heap := s.heap.push { cls := .type "dict", data := .dict #[] } }) :
    wpAny (model prog w) A (eval (.Dict keys values pos) env) Q E s := by
  rw [arm_eval_Dict, hshape, dictDisplay_pairs pairs h0 (by omega)]
  exact wpAny_bind (wpAny_standAt (wpAny_bind (wpAny_subDictH (knd := knd) (Q := fun d s' => wpAny (model prog w) A (pure (Value.ref d)) Q E s') hu hlen
    (wpAny_mono h (fun vs s₁ h₁ => by obtain ⟨ps, hc, hm, hq⟩ := h₁; exact ⟨ps, hc, hm, fun h' tk a b => wpAny_pure (hq h' tk a b)⟩) fun _ _ e => e))))
theorem pe_disp1 {X : Cx} {pos : Pos} {k v : Expr} {tk tv : TE} (hu : X.A.units + 65 < cLine) (hk : PE X k tk) (hv : PE X v tv) : PE X (.Dict [some k] [v] pos) (tDisp1 X.K tk tv) := by
  refine ⟨fun pins s σ H Q I q => ?_⟩
  have hn := I.hok.fresh (Nat.le_refl s.heap.objs.size)
  have I1 := I.laid (a := s.heap.objs.size) (o := .dK []) (h' := s.heap.push { cls := .type "dict", data := .dict #[] }) (t' := s.toks) (fun _ _ q => Heap.get?_push_of_some _ q) (Nat.le_refl _) (dk_empty s.heap I.big)
  have pps : PPs X pos [some k] [v] [(tk, tv)] := pps_cons hk hv pps_nil
  refine wpAny_Dict_pairsX (knd := nestedKind X.prog X.w) (pairs := pairTrees [some k] [v] X.env pos) (by show X.A.units + 8 < cLine; omega) rfl (fun z => nomatch z) (by show 1 ≤ 15; decide)
    (thn (pps.run pins _ σ _ (fun ps H2 => match ps with
      | [(x, y)] => ∃ ρ k b, NdM X.K ρ H2 [] s.heap.objs.size [] ∧ x = .ref b ∧ nkOf (keyVl k) = some k ∧ Rep X.K ρ H2 (keyVl k) (.ref b) ∧ Q (.ref s.heap.objs.size) (upd H2 s.heap.objs.size (.ext (NdAt s.heap.objs.size [(k, b, y)])))
      | _ => False) I1 (q _ hn)) fun ws s2 ⟨ps, H2, I2, rel, q2⟩ => ?_)
  match ps, rel, q2 with
  | [(x, y)], rel, ⟨ρ, kk, b, M, ex, nk, rk, q2⟩ =>
    subst ex
    cases rel with
    | @cons _ c _ cs h t =>
      cases t
      obtain ⟨c1, c2⟩ := c
      obtain ⟨r1, r2⟩ := h
      obtain rfl : c1 = Value.ref b := r1
      obtain ⟨z, hd, vs, rv, dd, hw⟩ := M.x.now I2
      cases rv
      refine ⟨[(kk, b, c2)], ⟨rfl, rfl, key_is I2 nk rk, trivial⟩, dd, fun h' tk dd' hs => ?_⟩
      have em : storedAllH [] [(kk, b, c2)] = [(kk, b, c2)] := rfl
      rw [em] at dd'
      obtain ⟨o, es, ep, ho, hx, hdat, hes, his, hnd⟩ := dd'
      refine ⟨.ref s.heap.objs.size, upd H2 s.heap.objs.size (.ext (NdAt s.heap.objs.size [(kk, b, y)])), d_write I2 M.mut hs ⟨o, ho⟩ ⟨⟨(show 1 ≤ sizeLine by decide), hd, [(kk, b, c2)], .cons ⟨rfl, rfl, r2⟩ .nil, o, es, ep, ho, hx, hdat, fun P w => ?_, hnd⟩, ⟨o, ho⟩, fun h1 h2 ⟨q1, q2, q3, q4, q5, q6, q7, q8, q9⟩ hk => ⟨q1, q2, q3, q4, q5, q6, q7, hk _ q8, q9⟩⟩, rfl, q2⟩
      rw [hes]
      show [DictEntry.mk _ _ _] = [DictEntry.mk _ _ _]
      rw [show (nestedKind X.prog X.w).hash kk = kk.hash X.w from rfl, show (nestedKind P w).hash kk = kk.hash w from rfl, (nkOf_ok nk).2.2.1 X.w w]
end PV

/-! own rule: dict(pairs) whose keys are tuples -/
namespace PV
open PySem PySem.Spec PyProof.Rows L2
def mergeX {W : Type} (xs more : List (NestedKey × Addr × W)) : List (NestedKey × Addr × W) := more.foldl (fun acc x => putX acc x.1 x.2.1 x.2.2) xs
theorem NRel.mergeX {K : PySem.W.Frag} {ρ : List Addr} {H : Hp} {more : List (NestedKey × Vl)} {ns : List (NestedKey × Addr × V)} (q : NRel K ρ H more ns) : ∀ {kvs : List (NestedKey × Vl)} {xs : List (NestedKey × Addr × V)}, NRel K ρ H kvs xs → NRel K ρ H (dmerge kvs more) (mergeX xs ns) := by
  induction q with
  | nil => exact fun r => r
  | @cons p q ps qs h t ih =>
    intro kvs xs r
    have := NRel.put r h.2.1.1 h.2.1.2 h.2.2
    rw [show putX xs p.1 q.2.1 q.2.2 = putX xs q.1 q.2.1 q.2.2 by rw [h.1]] at this
    exact ih this
theorem NV.mergeX {ns : List (NestedKey × Addr × V)} {vs : List (NestedKey × Addr × Value)} (q : NV ns vs) : ∀ {xs : List (NestedKey × Addr × V)} {us : List (NestedKey × Addr × Value)}, NV xs us → NV (mergeX xs ns) (storedAllH us vs) := by
  induction q with
  | nil => exact fun r => r
  | @cons p q ps qs h t ih =>
    intro xs us r
    have := NV.put (k := p.1) (b := p.2.1) r h.2.2
    rw [show putX us p.1 p.2.1 q.2.2 = storedH us q.1 q.2.1 q.2.2 by rw [stored_put, h.1, h.2.1]] at this
    exact ih this
theorem pairs_repN {K : PySem.W.Frag} {ρ : List Addr} {H : Hp} {vs : List Vl} : ∀ {ys : List V} (kvs : List (NestedKey × Vl)), Reps K ρ H vs ys → optAll pairN vs = some kvs →
    ∃ (ps : List Addr) (ns : List (NestedKey × Addr × V)), ys = ps.map V.ref ∧ Paired (fun p (x : NestedKey × Addr × V) => SqT K H p [.ref x.2.1, x.2.2]) ps ns ∧ NRel K ρ H kvs ns := by
  induction vs with
  | nil =>
    intro ys kvs r e
    cases r
    simp only [optAll, Option.some.injEq] at e
    subst e
    exact ⟨[], [], rfl, .nil, .nil⟩
  | cons v vs ih =>
    intro ys kvs r e
    cases r with
    | cons r1 r2 =>
      simp only [optAll] at e
      cases h1 : pairN v with
      | none => simp [h1] at e
      | some kv =>
        cases h2 : optAll pairN vs with
        | none => simp [h1, h2] at e
        | some ks =>
          simp only [h1, h2, Option.some.injEq] at e
          subst e
          obtain ⟨ps, ns, rfl, hp, rel⟩ := ih ks r2 h2
          unfold pairN at h1
          split at h1
          · rename_i k x
            obtain ⟨kk, e1, rfl⟩ := Option.map_eq_some_iff.mp h1
            obtain ⟨a1, _, _, a4⟩ := nkOf_ok e1
            obtain ⟨p, xs, rfl, hq, rs⟩ := r1.tup_of
            obtain ⟨y, z, rfl, ry, rz⟩ := rs.two
            cases k with
            | tup t =>
              have ry0 := ry
              obtain ⟨b, ws, rfl, _, _⟩ := ry.tup_of
              rw [← a1] at ry0
              exact ⟨p :: ps, (kk, b, z) :: ns, rfl, .cons hq hp, .cons ⟨rfl, ⟨ry0, a4⟩, rz⟩ rel⟩
            | _ => cases e1
          · cases h1
section
variable {X : Cx}
theorem pairs_ofN {pins : List (Addr × Obj)} {σ : L2.St} {H : Hp} {s : Shared} (I : Inv X pins σ H s) : ∀ {ps : List Addr} {ns : List (NestedKey × Addr × V)}, Paired (fun p (x : NestedKey × Addr × V) => SqT X.K H p [.ref x.2.1, x.2.2]) ps ns →
    ∃ vs : List (NestedKey × Addr × Value), NV ns vs ∧ vs.length = ps.length ∧ ∀ (j : Nat) (q : NestedKey × Addr × Value), vs[j]? = some q → ∃ T : Addr, ps[j]? = some T ∧ IsTup s.heap T #[.ref q.2.1, q.2.2]
  | _, _, .nil => ⟨[], .nil, rfl, fun j q e => by simp at e⟩
  | _, _, .cons (a := p) (b := x) h t => by
    obtain ⟨vs, r, hl, hp⟩ := pairs_ofN I t
    obtain ⟨its, rv, ht, _⟩ := I.tuple h
    obtain ⟨u, y, ei, ru, ry⟩ := vals2 rv
    subst ei
    obtain rfl : u = Value.ref x.2.1 := ru
    refine ⟨(x.1, x.2.1, y) :: vs, .cons ⟨rfl, rfl, ry⟩ r, by rw [List.length_cons, List.length_cons, hl], fun j q e => ?_⟩
    cases j with
    | zero =>
      have e' : (x.1, x.2.1, y) = q := Option.some.inj e
      subst e'
      exact ⟨p, rfl, ht⟩
    | succ j =>
      obtain ⟨T, e1, e2⟩ := hp j q (by simpa using e)
      exact ⟨T, by simpa using e1, e2⟩
theorem keys_all {K : PySem.W.Frag} {ρ : List Addr} {H : Hp} {kvs : List (NestedKey × Vl)} {xs : List (NestedKey × Addr × V)} {vs : List (NestedKey × Addr × Value)} (r : NRel K ρ H kvs xs) (q : NV xs vs) : ∀ x ∈ vs, nkOf (keyVl x.1) = some x.1 ∧ Rep K ρ H (keyVl x.1) (.ref x.2.1) := by
  induction r generalizing vs with
  | nil => cases q; intro x hx; cases hx
  | @cons p q' ps qs hq t ih =>
    cases q with
    | cons c d =>
      intro x hx
      rcases List.mem_cons.mp hx with e | hx
      · subst e
        rw [← c.1, ← c.2.1, ← hq.1]
        exact ⟨hq.2.1.2, hq.2.1.1⟩
      · exact ih d x hx
theorem call_dictN (hcalm : X.calm = true) (hu : X.A.units + 65 < cLine) : CallR X (.type "dict") (fun xs H Q => ∃ (a : Addr) (ps : List Addr) (ρ : List Addr) (kvs : List (NestedKey × Vl)) (ns : List (NestedKey × Addr × V)), xs = [.ref a] ∧ SqL X.K H a (ps.map V.ref) ∧ Paired (fun p (x : NestedKey × Addr × V) => SqT X.K H p [.ref x.2.1, x.2.2]) ps ns ∧ NRel X.K ρ H kvs ns ∧
    ∀ p, H p = none → Q (.ref p) (upd H p (.ext (NdAt p (mergeX [] ns))))) := by
  intro pins s σ H xs us Q I r q
  obtain ⟨a, ps, ρ, kvs, ns, ex, hq, hp, rel, q⟩ := q
  subst ex
  obtain ⟨u, eu, rx⟩ := vals1 r
  subst eu
  cases rx
  obtain ⟨its, rv, pl, hz⟩ := I.list hq
  have ei := refs_at rv
  subst ei
  rw [List.length_map] at hz
  obtain ⟨vs, nv, hl, hpr⟩ := pairs_ofN I hp
  obtain ⟨o, n, ho, hc, hd, hdat⟩ := pl
  have ka := keys_all rel nv
  have items : PairItems s.heap (ps.map Value.ref).toArray (fun j => (ps[j]?).getD 0) (vs.map fun q => (Value.ref q.2.1, q.2.2)) := by
    refine ⟨by simp [hl], fun j k v e => ?_⟩
    rw [List.getElem?_map, Option.map_eq_some_iff] at e
    obtain ⟨q', e1, e2⟩ := e
    cases e2
    obtain ⟨T, e3, e4⟩ := hpr j q' e1
    refine ⟨by simp [e3], .inl ?_⟩
    obtain ⟨o', h1, h2, h3⟩ := e4
    simp only [e3, Option.getD_some]
    first
      | exact ⟨o', h1, h2, h3⟩
      | (obtain ⟨n', h4, h5⟩ := h3; exact ⟨o', h1, h2, _, h5⟩)
      | (obtain ⟨n', h4, h5⟩ := h3; exact ⟨o', h1, h2, _, h4⟩)
  refine call_dict_pairsH (knd := nestedKind X.prog X.w) (ps := vs) (PairArg.list (prog := X.prog) (w := X.w) a (ps.map Value.ref).toArray (fun j => (ps[j]?).getD 0) (vs.map fun q => (Value.ref q.2.1, q.2.2))) (I.ok.hd hcalm) (by show X.A.units + 1 + 1 + 8 < cLine; omega) ⟨⟨o, n, ho, hc, hd, hdat⟩, items⟩
    ⟨by rw [List.length_map], fun i key v e => ?_⟩ (fun h' hk x hx => ?_) (by rw [List.length_map, hl]; exact hz) fun h' tk hd' k => ?_
  · have e : (vs.map fun q => (Value.ref q.2.1, q.2.2))[i]? = some (key, v) := e
    rw [List.getElem?_map, Option.map_eq_some_iff] at e
    obtain ⟨q', e1, e2⟩ := e
    cases e2
    exact ⟨q'.1, q'.2.1, e1, rfl⟩
  · have k0 : ∀ b o, s.heap.get? b = some o → h'.get? b = some o := fun b o e => hk b o (Nat.ne_of_lt (Heap.lt_size e)) (fun z => nomatch z) e
    have I2 : Inv X pins σ H { s with heap := h' } := I.kept (t' := s.toks) k0
    exact key_is I2 (ka x hx).1 (ka x hx).2
  · obtain ⟨od, es, ep, ho', hx, hdat', hes, his, hnd⟩ := hd'
    have hm : (s.heap.objs.size == sysModules) = false := beq_eq_false_iff_ne.mpr (Nat.ne_of_gt I.big)
    have nv2 : NV (mergeX [] ns) (storedAllH [] vs) := NV.mergeX nv .nil
    have hlen : (mergeX [] ns).length ≤ sizeLine := by
      rw [Paired.length nv2]
      have := storedAllH_length vs []
      rw [List.length_nil, Nat.zero_add, hl] at this
      omega
    have hh : ∀ x ∈ storedAllH [] vs, ∀ w w' : World, x.1.hash w = x.1.hash w' := storedAllH_keys (P := fun k _ => ∀ w w' : World, k.hash w = k.hash w') (fun x hx => by cases hx) fun x hx => (nkOf_ok (ka x hx).1).2.2.1
    refine ⟨.ref s.heap.objs.size, upd H s.heap.objs.size (.ext (NdAt s.heap.objs.size (mergeX [] ns))), I.laid (t' := tk) (fun b o e => k b o (fun z => nomatch z) e) (Nat.le_refl _)
      (show ObjOk X.prog X.w _ _ _ (.ext (NdAt s.heap.objs.size (mergeX [] ns))) from ⟨⟨hlen, hm, storedAllH [] vs, nv2, od, es, ep, ho', hx, hdat', fun P w => ?_, hnd⟩, ⟨od, ho'⟩, fun h1 h2 ⟨q1, q2, q3, q4, q5, q6, q7, q8, q9⟩ hk => ⟨q1, q2, q3, q4, q5, q6, q7, hk _ q8, q9⟩⟩), rfl, q _ (I.hok.fresh (Nat.le_refl _))⟩
    rw [hes]
    refine List.map_congr_left fun x hx => ?_
    show DictEntry.mk _ _ _ = DictEntry.mk _ _ _
    rw [show (nestedKind X.prog X.w).hash x.1 = x.1.hash X.w from rfl, show (nestedKind P w).hash x.1 = x.1.hash w from rfl, hh x hx X.w w]
theorem minD_ok (xs : List PyData) : ∀ (acc : PyData) (done : List PyData), acc ∈ done → (∀ z ∈ done, PySem.W.dataLt z acc = false) → ∃ m, xs.foldl (fun a y => if PySem.W.dataLt y a then y else a) acc = m ∧ m ∈ done ++ xs ∧ ∀ z ∈ done ++ xs, PySem.W.dataLt z m = false := by
  induction xs with
  | nil => intro acc done h1 h2; exact ⟨acc, rfl, by simpa using h1, by simpa using h2⟩
  | cons y xs ih =>
    intro acc done h1 h2
    rw [List.foldl_cons]
    have key : ∀ acc', acc' ∈ done ++ [y] → (∀ z ∈ done ++ [y], PySem.W.dataLt z acc' = false) → ∃ m, xs.foldl (fun a y => if PySem.W.dataLt y a then y else a) acc' = m ∧ m ∈ done ++ y :: xs ∧ ∀ z ∈ done ++ y :: xs, PySem.W.dataLt z m = false := by
      intro acc' a b
      obtain ⟨m, e1, e2, e3⟩ := ih acc' (done ++ [y]) a b
      rw [List.append_assoc] at e2 e3
      exact ⟨m, e1, e2, e3⟩
    cases hl : PySem.W.dataLt y acc with
    | true =>
      rw [if_pos rfl]
      refine key y (by simp) fun z hz => ?_
      rcases List.mem_append.mp hz with hz | hz
      · cases hzy : PySem.W.dataLt z y with
        | false => rfl
        | true =>
          have := PyProof.Rows.lex_trans _ _ _ hzy hl
          have h3 := h2 z hz
          unfold PySem.W.dataLt at h3
          rw [this] at h3
          cases h3
      · rw [List.mem_singleton.mp hz]
        exact PyProof.Rows.lex_irrefl _
    | false =>
      rw [if_neg (by decide)]
      refine key acc (List.mem_append_left _ h1) fun z hz => ?_
      rcases List.mem_append.mp hz with hz | hz
      · exact h2 z hz
      · rw [List.mem_singleton.mp hz]; exact hl
theorem min_list {pins : List (Addr × Obj)} {σ : L2.St} {H : Hp} {s : Shared} {a : Addr} {xs : List V} {vs : List Vl} {ρ : List Addr} {ds : List PyData} {Q : VK} (hc : X.calm = true) (hu : X.A.units + 65 < cLine) (I : Inv X pins σ H s) (hq : SqL X.K H a xs) (r : Reps X.K ρ H vs xs) (hds : optAll (toK 10) vs = some ds) (hok : srtOk ds = true) (h0 : 0 < vs.length)
    (q : ∀ m z, m ∈ vs → Rep X.K ρ H m z → (∀ y, y ∈ vs → vle m y) → Q z H) : wpAny (model X.prog X.w) X.A (call (.builtin "min") [.ref a]) (EP X pins σ Q) X.xe s := by
  obtain ⟨its, rv, pl, hz⟩ := I.list hq
  obtain ⟨ra, dep⟩ := toKs_reads I 10 vs ds xs its hds r rv
  obtain ⟨al, so⟩ := srt_ok hok
  obtain ⟨em, _⟩ := encs_of hds
  cases ds with
  | nil =>
    rw [List.map_eq_nil_iff] at em
    rw [em] at h0
    cases h0
  | cons d ds =>
    have nn : ∀ x ∈ d :: ds, x ≠ PyData.none := fun x hx z => by
      rcases so with so | so
      · obtain ⟨y, t, e⟩ := so x hx
        rw [z] at e; cases e
      · exact (so x hx).1 z
    refine PySem.W.min_list_data (vs := its.toArray) (I.ok.hd hc) pl.isList ra ⟨al, nn⟩ (by omega) fun i v h' tk bs hv hr keep => ?_
    have hv2 : its[i]? = some v := by simpa using hv
    obtain ⟨cs, r1, i1, m1, _⟩ := PySem.W.readsAll_at ra i v hv2
    have hi : i < vs.length := by
      have := congrArg List.length em
      rw [List.length_map] at this
      omega
    have hm : vs[i]? = some vs[i] := List.getElem?_eq_getElem hi
    obtain ⟨z, hz2, rz⟩ := r.get hm
    obtain ⟨u, hu2, ru⟩ := rv.get hz2
    rw [hv2] at hu2
    cases hu2
    have ed : (d :: ds).getD i .none = encK vs[i] := by
      rw [← em, List.getD_eq_getElem?_getD, List.getElem?_map, hm]
      rfl
    obtain ⟨w, e1, e2, e3⟩ := minD_ok ds d [d] (by simp) (fun z hz => by rw [List.mem_singleton.mp hz]; exact PyProof.Rows.lex_irrefl _)
    have e2' : PySem.W.minD d ds ∈ d :: ds := by
      unfold PySem.W.minD
      rw [e1]; exact e2
    have eq := PySem.W.alike_unique _ _ _ _ _ (al _ m1 _ e2') (PySem.W.reads_keeps keep r1) hr
    refine ⟨z, H, I.kept (t' := tk) keep, ru, q vs[i] z (List.getElem_mem hi) rz fun y hy => ?_⟩
    have hy2 : encK y ∈ d :: ds := by rw [← em]; exact List.mem_map_of_mem hy
    show PySem.W.dataLt (encK y) (encK vs[i]) = false
    rw [← ed, eq]
    unfold PySem.W.minD
    rw [e1]
    exact e3 _ hy2
end
end PV

/-! own rules: list(d), list(d.values()) of a dict with keys of one part -/
namespace PV
open PySem PySem.Spec PyProof.Rows L2
section
variable {X : Cx} {pins : List (Addr × Obj)} {σ : L2.St} {H : Hp} {s : Shared} {a : Addr} {ks : List (Key × V)} {Q : VK}
theorem vals_at {xs : List V} {acc : Array Value} {n : Nat} {P : Nat → Value → Prop} (h : ItemsOf P acc n) (hn : xs.length = n) (hp : ∀ (j : Nat) (x : V) (v : Value), xs[j]? = some x → P j v → RelV x v) : Vals xs acc.toList := by
  have go : ∀ (xs : List V) (vs : List Value), xs.length = vs.length → (∀ (j : Nat) (x : V) (v : Value), xs[j]? = some x → vs[j]? = some v → RelV x v) → Vals xs vs := by
    intro xs
    induction xs with
    | nil =>
      intro vs hl _
      cases vs with
      | nil => exact .nil
      | cons _ _ => cases hl
    | cons x xs ih =>
      intro vs hl h
      cases vs with
      | nil => cases hl
      | cons v vs => exact .cons (h 0 x v rfl rfl) (ih vs (by simpa using hl) fun j y u e1 e2 => h (j + 1) y u (by simpa using e1) (by simpa using e2))
  refine go xs acc.toList (hn.trans (h.1.symm.trans Array.length_toList.symm)) fun j x v e1 e2 => hp j x v e1 (h.2 j v (by rw [← Array.getElem?_toList]; exact e2))
/-- a new list of such a walk -/
theorem list_new {xs : List V} {h' : Heap} {tk : Nat} {acc : Array Value} {c : Nat} (I : Inv X pins σ H s) (hk : ∀ b o, s.heap.get? b = some o → h'.get? b = some o)
    (hL : h'.get? s.heap.objs.size = some { cls := .type "list", dict := none, data := .seq acc c, slots := #[] }) (r : Vals xs acc.toList) (z : xs.length ≤ sizeLine) (q : ∀ l, H l = none → Q (.ref l) (upd H l (.lst xs))) :
    EP X pins σ Q (.ref s.heap.objs.size) { s with heap := h', toks := tk } := by
  have hf : H s.heap.objs.size = none := I.hok.fresh (Nat.le_refl _)
  refine ⟨.ref s.heap.objs.size, _, I.laid (t' := tk) hk (Nat.le_refl _) (o := .lst xs) ⟨z, acc.toList, c, r, ?_⟩, rfl, q _ hf⟩
  rw [Array.toArray_toList]
  exact hL
theorem list_dk (hc : X.calm = true) (I : Inv X pins σ H s) (e : Rd H a (.dK ks)) (q : ∀ l, H l = none → Q (.ref l) (upd H l (.lst (ks.map fun p => kV p.1)))) :
    wpAny (model X.prog X.w) X.A (call (.type "list") [.ref a]) (EP X pins σ Q) X.xe s := by
  obtain ⟨z, hs, vs, kv, o, es, ep, ho, hx, hdt, hm⟩ := L2.dk_rd I.hok e
  have hl : ks.length = vs.length := Paired.length kv
  have da : s.heap.DictAt (mixKind X.prog X.w) a vs ep := ⟨o, es, ho, hx, hdt, hm⟩
  refine PySem.W.kdl_call (PySem.W.kdl_dict (prog := X.prog) (w := X.w) (knd := mixKind X.prog X.w) (kvs := vs) (ep := ep) hs) (I.ok.hd hc) da (by omega) fun h' tk acc c hk hL hacc => ?_
  refine list_new I hk hL (vals_at hacc (by rw [List.length_map]; exact hl) fun j x v e1 e2 => ?_) (by rw [List.length_map]; exact z) q
  obtain ⟨k, y, e3, e4⟩ := e2
  rw [List.getElem?_map, Option.map_eq_some_iff] at e1
  obtain ⟨⟨k2, v2⟩, e5, rfl⟩ := e1
  obtain ⟨u, e6, _⟩ := kv_get kv e5
  rw [e3] at e6
  cases e6
  exact relV_key e4
/-- the view of the values -/
def valsO (p d : Addr) : HO := .ext fun h => h.IsValuesView p d
theorem valsO_ok {P : Program} {w : World} {H : Hp} {h : Heap} {p d : Addr} (e : h.get? p = some { cls := .type "dict_values", data := .fields #[.ref d] }) : ObjOk P w H h p (valsO p d) :=
  ⟨⟨_, e, rfl, rfl⟩, ⟨_, e⟩, fun h1 h2 ⟨o, e1, e2⟩ k => ⟨o, k _ e1, e2⟩⟩
def rValsK : V → List V → Hp → VK → Prop := fun x xs H Q => ∃ (a : Addr) (ks : List (Key × V)), x = .ref a ∧ xs = [] ∧ Rd H a (.dK ks) ∧ ∀ p, H p = none → Q (.ref p) (upd H p (valsO p a))
theorem mt_valsK : MtR X "dict.values" rValsK := by
  intro pins s σ H x xs v us Q I rx rxs h
  obtain ⟨a, ks, rfl, rfl, hd, q⟩ := h
  cases rx
  cases rxs
  obtain ⟨_, hs, vs, kv, dd⟩ := L2.dk_rd I.hok hd
  have hf : H s.heap.objs.size = none := I.hok.fresh (Nat.le_refl _)
  refine call_meetsIn F.slot_dict_values dd.typeIs F.entry_dict_values (F.args_dict_values_1 _) (meets_dict_values (mixKind X.prog X.w) a hs) ⟨⟨vs, dd⟩, ?_⟩
  exact ⟨.ref s.heap.objs.size, upd H s.heap.objs.size (valsO s.heap.objs.size a), I.laid (t' := s.toks) (fun b u e => Heap.get?_push_of_some _ e) (Nat.le_refl _) (valsO_ok (Heap.get?_push_size _ rfl)), rfl, q _ hf⟩
/-- list of the view -/
def rLvals : List V → Hp → VK → Prop := fun xs H Q => ∃ (p a : Addr) (ks : List (Key × V)), xs = [.ref p] ∧ H p = some (valsO p a) ∧ Rd H a (.dK ks) ∧ ∀ l, H l = none → Q (.ref l) (upd H l (.lst (ks.map (·.2))))
theorem call_lvals (hc : X.calm = true) : CallR X (.type "list") rLvals := by
  intro pins s σ H xs us Q I r h
  obtain ⟨p, a, ks, rfl, hp, e, q⟩ := h
  rw [show us = [Value.ref p] from by
    cases r with
    | cons r1 rs => cases rs; cases r1; rfl]
  have view : s.heap.IsValuesView p a := (show ObjOk X.prog X.w H s.heap p (valsO p a) from I.hok p _ hp).1
  obtain ⟨z, hs, vs, kv, o, es, ep, ho, hx, hdt, hm⟩ := L2.dk_rd I.hok e
  have hl : ks.length = vs.length := Paired.length kv
  have da : s.heap.DictAt (mixKind X.prog X.w) a vs ep := ⟨o, es, ho, hx, hdt, hm⟩
  refine PySem.W.kdl_call (PySem.W.kdl_values (prog := X.prog) (w := X.w) (knd := mixKind X.prog X.w) (kvs := vs) (ep := ep)) (I.ok.hd hc) ⟨view, da⟩ (by omega) fun h' tk acc c hk hL hacc => ?_
  refine list_new I hk hL (vals_at hacc (by rw [List.length_map]; exact hl) fun j x v e1 e2 => ?_) (by rw [List.length_map]; exact z) q
  obtain ⟨k, e3⟩ := e2
  rw [List.getElem?_map, Option.map_eq_some_iff] at e1
  obtain ⟨⟨k2, v2⟩, e5, rfl⟩ := e1
  obtain ⟨u, e6, ru⟩ := kv_get kv e5
  rw [e3] at e6
  cases e6
  exact ru
theorem pe_lvals {o : Expr} {to : TE} {apos cpos p pos : Pos} (hc : X.calm = true) (hg : Gl X "list") (hm : X.mg "list" = none) (ho : PE X o to)
    (hbase : attributeBase o "values" X.env (eval o X.env) = eval o X.env) (hline : (apos.endLine == cpos.line) = true) :
    PE X (.Call (.Name "list" p) [.Call (.Attribute o "values" apos) [] [] cpos] [] pos) (tCB rLvals (tCons (tDM0 X.K rValsK to) tNil)) :=
  pe_callTy (call_lvals hc) hg hm (by decide +kernel) (pa_cons (pe_dm0 PySem.F.slot_dict_values PySem.F.type_dict_values mt_valsK ho hbase hline) pa_nil rfl) (by decide) (by decide) rfl rfl
end
end PV

/-! the operators, built-ins, methods of the pure part over the hand layer -/
namespace PV
open PySem PySem.Spec PyProof.Rows L2

def LK (K : PySem.W.Frag) (ρ : List Addr) (H : Hp) (Q : VK) : K1 := fun v μ => ∀ ρ2 H2 x, Grow K ρ H ρ2 H2 → MemOk K ρ2 H2 μ → Rep K ρ2 H2 v x → Q x H2
def LR2 (K : PySem.W.Frag) (w : Mem → Vl → Vl → K1 → Prop) : R2 := fun x y H Q => ∃ v u μ ρ, MemOk K ρ H μ ∧ Rep K ρ H v x ∧ Rep K ρ H u y ∧ w μ v u (LK K ρ H Q)
def LRL (K : PySem.W.Frag) (w : Mem → List Vl → K1 → Prop) : List V → Hp → VK → Prop := fun xs H Q => ∃ vs μ ρ, MemOk K ρ H μ ∧ Reps K ρ H vs xs ∧ w μ vs (LK K ρ H Q)

section
variable {K : PySem.W.Frag} {ρ ρ2 : List Addr} {H H2 : Hp} {μ : Mem} {v : Vl} {x : V} {Q : VK} {a : Addr} {vs : List Vl} {xs : List V}
theorem LK.grow (g : Grow K ρ H ρ2 H2) (h : LK K ρ H Q v μ) : LK K ρ2 H2 Q v μ := fun ρ3 H3 x g3 m3 r3 => h ρ3 H3 x (g.trans g3) m3 r3
theorem LK.self (h : LK K ρ H Q v μ) (m : MemOk K ρ H μ) (r : Rep K ρ H v x) : Q x H := h ρ H x Grow.refl m r
/-- a new tuple -/
theorem LK.tup (h : LK K ρ H Q (.tup vs) μ) (m : MemOk K ρ H μ) (r : Reps K ρ H vs xs) {p : Addr} (hp : H p = none) : Q (.ref p) (upd H p (.tup xs)) := by
  have g : Grow K ρ H ρ (upd H p (.tup xs)) := grow_upd (.inl hp)
  refine h ρ _ _ g ⟨m.len, fun i o e => ?_, m.nd⟩ (.tup (.inl (.inl upd_same)) (r.grow g))
  obtain ⟨b, e1, ok⟩ := m.at' i o e
  refine ⟨b, e1, ok.grow g (fun xs q => frzL_upd (.inl hp) q) fun mo w q mu => ?_⟩
  rw [upd_ne (ne_of_none q hp)]
  exact q
/-- a new list -/
theorem LK.lst (h : LK K ρ H Q (.ref μ.length) (μ ++ [.lst vs])) (m : MemOk K ρ H μ) (r : Reps K ρ H vs xs) {p : Addr} (hp : H p = none) : Q (.ref p) (upd H p (.lst xs)) := by
  have g : Grow K ρ H (ρ ++ [p]) (upd H p (.lst xs)) := grow_new hp
  refine h _ _ _ g (m.new hp ⟨xs, upd_same, r.grow g⟩) (.ref ?_)
  rw [← m.len, List.getElem?_concat_length]
/-- a list written -/
theorem LK.put {r : Nat} {ws : List Vl} {ys : List V} {w : Vl} {y : V} (h : LK K ρ H Q w (μ.set r (.lst ws))) (m : MemOk K ρ H μ) (hr : mutAt μ r = some vs) (ha : ρ[r]? = some a) (rs : Reps K ρ H ws ys) (rw' : Rep K ρ H w y) : Q y (upd H a (.lst ys)) := by
  have e : μ[r]? = some (.lst vs) := by
    unfold mutAt at hr
    split at hr
    · rename_i e; cases hr; exact e
    · cases hr
  have mu : Mut (H a) := by
    obtain ⟨b, e1, ok⟩ := m.at' r _ e
    rw [ha] at e1; cases e1
    exact ok.mutH rfl
  have g : Grow K ρ H ρ (upd H a (.lst ys)) := grow_upd (.inr mu)
  exact h _ _ _ g (m.write e ha rfl ⟨ys, upd_same, rs.grow g⟩ rfl) (rw'.grow g)
theorem mut_of (m : MemOk K ρ H μ) {r : Nat} (h : mutAt μ r = some vs) (ha : ρ[r]? = some a) : ∃ xs, H a = some (.lst xs) ∧ Reps K ρ H vs xs := by
  unfold mutAt at h
  split at h
  · rename_i e
    cases h
    obtain ⟨b, e1, ok⟩ := m.at' r _ e
    rw [ha] at e1; cases e1
    exact ok
  · cases h
theorem lst_of (m : MemOk K ρ H μ) {r : Nat} (h : lstAt μ r = some vs) (ha : ρ[r]? = some a) : ∃ xs, SqL K H a xs ∧ Reps K ρ H vs xs := by
  unfold lstAt at h
  split at h
  · rename_i e
    cases h
    obtain ⟨b, e1, ok⟩ := m.at' r _ e
    rw [ha] at e1; cases e1
    obtain ⟨xs, q, r⟩ := ok
    exact ⟨xs, SqL.of q, r⟩
  · rename_i e
    cases h
    obtain ⟨b, e1, ok⟩ := m.at' r _ e
    rw [ha] at e1; cases e1
    obtain ⟨xs, q, r⟩ := ok
    exact ⟨xs, q.sq, r⟩
  · cases h
theorem seq_of (m : MemOk K ρ H μ) (h : seqOf μ v = some vs) (r : Rep K ρ H v x) : ∃ a xs, x = .ref a ∧ Reps K ρ H vs xs ∧ (SqL K H a xs ∨ SqT K H a xs) := by
  cases v with
  | tup ws =>
    obtain ⟨a, xs, e, q, rs⟩ := r.tup_of
    simp only [seqOf, Option.some.injEq] at h
    subst h
    exact ⟨a, xs, e, rs, .inr q⟩
  | ref i =>
    obtain ⟨a, e, q⟩ := r.ref_of
    obtain ⟨xs, q2, rs⟩ := lst_of m h q
    exact ⟨a, xs, e, rs, .inl q2⟩
  | _ => simp [seqOf] at h

/-! ### dicts -/
abbrev DRel (K : PySem.W.Frag) (ρ : List Addr) (H : Hp) : List (Key × Vl) → List (Key × V) → Prop := Paired fun (p : Key × Vl) (q : Key × V) => p.1 = q.1 ∧ Rep K ρ H p.2 q.2
theorem DRel.get {kvs : List (Key × Vl)} {ks : List (Key × V)} (r : DRel K ρ H kvs ks) (k : Key) : (dget kvs k = none ∧ valV ks k = none) ∨ ∃ v y, dget kvs k = some v ∧ valV ks k = some y ∧ Rep K ρ H v y := by
  unfold DRel at r
  induction r with
  | nil => exact .inl ⟨rfl, rfl⟩
  | @cons p q ps qs h t ih =>
    obtain ⟨h1, h2⟩ := h
    by_cases e : p.1 = k
    · refine .inr ⟨p.2, q.2, ?_, valV_pos (h1.symm.trans e), h2⟩
      unfold dget
      rw [List.find?_cons_of_pos (by simpa using e)]
      rfl
    · have a : dget (p :: ps) k = dget ps k := by
        unfold dget
        rw [List.find?_cons_of_neg (by simpa using e)]
      rw [a, valV_neg (fun z => e (h1.trans z))]
      exact ih
theorem DRel.isSome {kvs : List (Key × Vl)} {ks : List (Key × V)} (r : DRel K ρ H kvs ks) (k : Key) : (dget kvs k).isSome = (valV ks k).isSome := by
  rcases r.get k with ⟨a, b⟩ | ⟨v, y, a, b, _⟩ <;> rw [a, b] <;> rfl
theorem DRel.any {kvs : List (Key × Vl)} {ks : List (Key × V)} (r : DRel K ρ H kvs ks) (k : Key) : (kvs.any fun kv => decide (kv.1 = k)) = ks.any fun kv => decide (kv.1 = k) := by
  unfold DRel at r
  induction r with
  | nil => rfl
  | cons h t ih => rw [List.any_cons, List.any_cons, ih, h.1]
theorem DRel.put {kvs : List (Key × Vl)} {ks : List (Key × V)} (r : DRel K ρ H kvs ks) (k : Key) {y : V} (ry : Rep K ρ H v y) : DRel K ρ H (dput kvs k v) (putK ks k y) := by
  unfold dput putK
  rw [r.any k]
  by_cases e : (ks.any fun kv => decide (kv.1 = k)) = true
  · rw [if_pos e, if_pos e]
    clear e
    unfold DRel at r ⊢
    induction r with
    | nil => exact .nil
    | @cons p q ps qs h t ih =>
      rw [List.map_cons, List.map_cons]
      refine .cons ?_ ih
      obtain ⟨h1, h2⟩ := h
      by_cases e : p.1 = k
      · rw [if_pos e, if_pos (h1.symm.trans e)]; exact ⟨h1, ry⟩
      · rw [if_neg e, if_neg (fun z => e (h1.trans z))]; exact ⟨h1, h2⟩
  · rw [if_neg e, if_neg e]
    exact Paired.snoc r ⟨rfl, ry⟩
theorem DRel.merge {more : List (Key × Vl)} {ms : List (Key × V)} (q : DRel K ρ H more ms) : ∀ {kvs : List (Key × Vl)} {ks : List (Key × V)}, DRel K ρ H kvs ks → DRel K ρ H (dmerge kvs more) (mergeK ks ms) := by
  unfold DRel at q
  induction q with
  | nil => exact fun r => r
  | @cons p q ps qs h t ih =>
    intro kvs ks r
    have e : DRel K ρ H (dput kvs p.1 p.2) (putK ks q.1 q.2) := by
      have := r.put p.1 h.2
      rw [← h.1]; exact this
    exact ih e
theorem DRel.length {kvs : List (Key × Vl)} {ks : List (Key × V)} (r : DRel K ρ H kvs ks) : kvs.length = ks.length := Paired.length r
theorem DRel.grow {kvs : List (Key × Vl)} {ks : List (Key × V)} (g : Grow K ρ H ρ2 H2) (r : DRel K ρ H kvs ks) : DRel K ρ2 H2 kvs ks := Paired.mapQ (fun _ _ z => ⟨z.1, z.2.grow g⟩) r
theorem DRel.keys {kvs : List (Key × Vl)} {ks : List (Key × V)} (r : DRel K ρ H kvs ks) : kvs.map (·.1) = ks.map (·.1) := by
  unfold DRel at r
  induction r with
  | nil => rfl
  | cons h t ih => rw [List.map_cons, List.map_cons, ih, h.1]
theorem drel_keys {kvs : List (Key × Vl)} {ks : List (Key × V)} (r : DRel K ρ H kvs ks) : Reps K ρ H (kvs.map fun p => keyV p.1) (ks.map fun p => kV p.1) := by
  unfold DRel at r
  induction r with
  | nil => exact .nil
  | @cons p q ps qs h t ih =>
    rw [List.map_cons, List.map_cons, h.1]
    refine .cons ?_ ih
    cases q.1 with
    | inl i => exact .int i
    | inr s => exact .str s
theorem drel_vals {kvs : List (Key × Vl)} {ks : List (Key × V)} (r : DRel K ρ H kvs ks) : Reps K ρ H (kvs.map (·.2)) (ks.map (·.2)) := by
  unfold DRel at r
  induction r with
  | nil => exact .nil
  | @cons p q ps qs h t ih => exact .cons h.2 ih
theorem keys_ints : ∀ {ks : List Key} {ns : List Int}, optAll keyInt ks = some ns → ks = ns.map Sum.inl
  | [], ns, e => by
    simp only [optAll, Option.some.injEq] at e
    subst e; rfl
  | k :: ks, ns, e => by
    simp only [optAll] at e
    cases k with
    | inl i =>
      cases q : optAll keyInt ks with
      | none => simp [keyInt, q] at e
      | some ms =>
        simp [keyInt, q] at e
        subst e
        rw [List.map_cons, keys_ints q]
    | inr s => simp [keyInt] at e
theorem dctm_at {r : Nat} {kvs : List (Key × Vl)} (h : dctMut μ r = some kvs) : μ[r]? = some (.dct kvs) := by
  unfold dctMut at h
  split at h
  · rename_i e; cases h; exact e
  · cases h
theorem dctm_dct {r : Nat} {kvs : List (Key × Vl)} (h : dctMut μ r = some kvs) : dctAt μ r = some kvs := by
  unfold dctAt
  rw [dctm_at h]
theorem dct_at {r : Nat} {kvs : List (Key × Vl)} (h : dctAt μ r = some kvs) : μ[r]? = some (.dct kvs) ∨ μ[r]? = some (.dfz kvs) := by
  unfold dctAt at h
  split at h
  · rename_i e; cases h; exact .inl e
  · rename_i e; cases h; exact .inr e
  · cases h
theorem dctm_of {r : Nat} {kvs : List (Key × Vl)} (m : MemOk K ρ H μ) (h : dctMut μ r = some kvs) (ha : ρ[r]? = some a) : ∃ ks, H a = some (.dK ks) ∧ DRel K ρ H kvs ks := by
  obtain ⟨b, e1, ok⟩ := m.at' r _ (dctm_at h)
  rw [ha] at e1; cases e1
  exact ok
theorem dct_of {r : Nat} {kvs : List (Key × Vl)} (m : MemOk K ρ H μ) (h : dctAt μ r = some kvs) (ha : ρ[r]? = some a) : ∃ ks, Rd H a (.dK ks) ∧ DRel K ρ H kvs ks := by
  rcases dct_at h with e | e
  · obtain ⟨b, e1, ks, e2, ok⟩ := m.at' r _ e
    rw [ha] at e1; cases e1
    exact ⟨ks, .inl e2, ok⟩
  · obtain ⟨b, e1, o, ks, e2, ok⟩ := m.at' r _ e
    rw [ha] at e1; cases e1
    exact ⟨ks, .inr ⟨o, e2⟩, ok⟩
theorem dgetR {kvs : List (Key × V)} {k : Key} (e : Rd H a (.dK kvs)) : DGet H a (kV k) (valV kvs k) := .inl ⟨kvs, k, e, rfl, rfl⟩
theorem key_V {u : Vl} {y : V} {k : Key} (r : Rep K ρ H u y) (h : kOf u = some k) : y = kV k := by
  cases r <;> simp only [kOf, Option.some.injEq, reduceCtorEq] at h <;> subst h <;> rfl
theorem pairs_rep {vs : List Vl} : ∀ {ys : List V} (kvs : List (Key × Vl)), Reps K ρ H vs ys → optAll pairOf vs = some kvs → ∃ (ps : List Addr) (ks : List (Key × V)), ys = ps.map V.ref ∧ Paired (fun p kv => SqT K H p [kV kv.1, kv.2]) ps ks ∧ DRel K ρ H kvs ks := by
  induction vs with
  | nil =>
    intro ys kvs r e
    cases r
    cases e
    exact ⟨[], [], rfl, .nil, .nil⟩
  | cons v vs ih =>
    intro ys kvs r e
    cases r with
    | cons hv r =>
      unfold optAll at e
      split at e
      · rename_i b bs e1 e2
        cases e
        obtain ⟨ps, ks, rfl, hp, rel⟩ := ih bs r e2
        unfold pairOf at e1
        split at e1
        · rename_i k x
          rw [Option.map_eq_some_iff] at e1
          obtain ⟨kk, ek, rfl⟩ := e1
          obtain ⟨a, xs, rfl, q, rs⟩ := hv.tup_of
          cases rs with
          | cons rk rs =>
            cases rs with
            | cons rx rs =>
              cases rs
              rw [key_V rk ek] at q
              exact ⟨a :: ps, (kk, _) :: ks, rfl, .cons q hp, .cons ⟨rfl, rx⟩ rel⟩
        · cases e1
      · cases e
theorem dk_of {v u : Vl} {x y : V} {P : List (Key × Vl) → Key → Prop} (m : MemOk K ρ H μ) (rv : Rep K ρ H v x) (ru : Rep K ρ H u y) (h : dkW μ v u P) :
    ∃ r a kvs ks k, v = .ref r ∧ dctAt μ r = some kvs ∧ ρ[r]? = some a ∧ x = .ref a ∧ y = kV k ∧ Rd H a (.dK ks) ∧ DRel K ρ H kvs ks ∧ P kvs k := by
  unfold dkW at h
  split at h
  · obtain ⟨a, rfl, q⟩ := rv.ref_of
    split at h
    · rename_i e1
      split at h
      · rename_i e2
        obtain ⟨ks, h1, h2⟩ := dct_of m e1 q
        exact ⟨_, a, _, ks, _, rfl, e1, q, rfl, key_V ru e2, h1, h2, h⟩
      · exact False.elim h
    · exact False.elim h
  · exact False.elim h
/-- a new dict -/
theorem LK.dct {kvs : List (Key × Vl)} {ks : List (Key × V)} (h : LK K ρ H Q (.ref μ.length) (μ ++ [.dct kvs])) (m : MemOk K ρ H μ) (r : DRel K ρ H kvs ks) {p : Addr} (hp : H p = none) : Q (.ref p) (upd H p (.dK ks)) := by
  have g : Grow K ρ H (ρ ++ [p]) (upd H p (.dK ks)) := grow_new hp
  refine h _ _ _ g (m.new hp ⟨ks, upd_same, r.grow g⟩) (.ref ?_)
  rw [← m.len, List.getElem?_concat_length]
theorem dct_write {r : Nat} {kvs kvs2 : List (Key × Vl)} {ks2 : List (Key × V)} (m : MemOk K ρ H μ) (hr : dctMut μ r = some kvs) (ha : ρ[r]? = some a) (rs : DRel K ρ H kvs2 ks2) :
    Grow K ρ H ρ (upd H a (.dK ks2)) ∧ MemOk K ρ (upd H a (.dK ks2)) (μ.set r (.dct kvs2)) := by
  have mu : Mut (H a) := by
    obtain ⟨b, e1, ok⟩ := m.at' r _ (dctm_at hr)
    rw [ha] at e1; cases e1
    exact ok.mutH rfl
  have g : Grow K ρ H ρ (upd H a (.dK ks2)) := grow_upd (.inr mu)
  exact ⟨g, m.write (dctm_at hr) ha rfl ⟨ks2, upd_same, rs.grow g⟩ rfl⟩
/-- a dict written -/
theorem LK.dput {r : Nat} {kvs kvs2 : List (Key × Vl)} {ks2 : List (Key × V)} {w : Vl} {y : V} (h : LK K ρ H Q w (μ.set r (.dct kvs2))) (m : MemOk K ρ H μ) (hr : dctMut μ r = some kvs) (ha : ρ[r]? = some a) (rs : DRel K ρ H kvs2 ks2) (rw' : Rep K ρ H w y) : Q y (upd H a (.dK ks2)) := by
  obtain ⟨g, m2⟩ := dct_write m hr ha rs
  exact h _ _ _ g m2 (rw'.grow g)

/-- a new dict, keyed by tuples -/
theorem LK.ndc {kvs : List (NestedKey × Vl)} {xs : List (NestedKey × Addr × V)} (h : LK K ρ H Q (.ref μ.length) (μ ++ [.ndc kvs])) (m : MemOk K ρ H μ) (r : NRel K ρ H kvs xs) {p : Addr} (hp : H p = none) : Q (.ref p) (upd H p (.ext (NdAt p xs))) := by
  have g : Grow K ρ H (ρ ++ [p]) (upd H p (.ext (NdAt p xs))) := grow_new hp
  refine h _ _ _ g (m.new hp ⟨xs, upd_same, Paired.mapQ (fun p q z => ⟨z.1, ⟨z.2.1.1.grow g, z.2.1.2⟩, z.2.2.grow g⟩) r⟩) (.ref ?_)
  rw [← m.len, List.getElem?_concat_length]
/-! ### data -/
theorem optAll_dp {f : Vl → Option PyData} (hf : ∀ v x d, Rep K ρ H v x → f v = some d → Dp K H x d) : ∀ {vs : List Vl} {xs : List V} {ds : List PyData}, Reps K ρ H vs xs → optAll f vs = some ds → DpAll K H xs ds
  | _, _, ds, .nil, e => by
    simp only [optAll, Option.some.injEq] at e
    subst e; exact .nil
  | v :: vs, _, ds, .cons h r, e => by
    simp only [optAll] at e
    cases q1 : f v with
    | none => rw [q1] at e; simp at e
    | some d =>
      cases q2 : optAll f vs with
      | none => rw [q1, q2] at e; simp at e
      | some ds' =>
        rw [q1, q2] at e
        simp only [Option.some.injEq] at e
        subst e
        exact .cons (hf v _ d h q1) (optAll_dp hf r q2)
theorem toD_dp (m : MemOk K ρ H μ) : ∀ (n : Nat) (v : Vl) (x : V) (d : PyData), Rep K ρ H v x → toD μ n v = some d → Dp K H x d
  | 0, v, x, d, r, e => by
    cases v with
    | none => cases r; simp only [toD, Option.some.injEq] at e; subst e; exact .non
    | bool b => cases r; simp only [toD, Option.some.injEq] at e; subst e; exact .bl b
    | int i => cases r; simp only [toD, Option.some.injEq] at e; subst e; exact .int i
    | str s => cases r; simp only [toD, Option.some.injEq] at e; subst e; exact .str s
    | tup vs => simp [toD] at e
    | ref i => simp [toD] at e
  | n + 1, v, x, d, r, e => by
    cases v with
    | none => cases r; simp only [toD, Option.some.injEq] at e; subst e; exact .non
    | bool b => cases r; simp only [toD, Option.some.injEq] at e; subst e; exact .bl b
    | int i => cases r; simp only [toD, Option.some.injEq] at e; subst e; exact .int i
    | str s => cases r; simp only [toD, Option.some.injEq] at e; subst e; exact .str s
    | tup vs =>
      obtain ⟨a, xs, rfl, q, rs⟩ := r.tup_of
      simp only [toD, Option.map_eq_some_iff] at e
      obtain ⟨ds, e1, rfl⟩ := e
      exact .tup q (optAll_dp (fun v x d h1 h2 => toD_dp m n v x d h1 h2) rs e1)
    | ref i =>
      obtain ⟨a, rfl, q⟩ := r.ref_of
      simp only [toD] at e
      cases q1 : lstAt μ i with
      | none => rw [q1] at e; simp at e
      | some vs =>
        rw [q1] at e
        simp only [Option.map_eq_some_iff] at e
        obtain ⟨ds, e1, rfl⟩ := e
        obtain ⟨xs, q2, rs⟩ := lst_of m q1 q
        exact .lst q2 (optAll_dp (fun v x d h1 h2 => toD_dp m n v x d h1 h2) rs e1)
theorem flat_V (r : Rep K ρ H v x) (h : flat v = true) : flatV x = true := by
  cases r <;> first | rfl | simp [flat] at h
theorem flats_V : ∀ {vs : List Vl} {xs : List V}, Reps K ρ H vs xs → vs.all flat = true → xs.all flatV = true
  | _, _, .nil, _ => rfl
  | _, _, .cons h r, e => by
    rw [List.all_cons, Bool.and_eq_true] at e ⊢
    exact ⟨flat_V h e.1, flats_V r e.2⟩
theorem eqF_V {w : Vl} {y : V} (r : Rep K ρ H v x) (q : Rep K ρ H w y) (h : flat v = true) (h2 : flat w = true) : eqF v w = L2.eqV x y := by
  cases r <;> cases q <;> first | rfl | simp [flat] at h | simp [flat] at h2
theorem any_V {w : Vl} {y : V} (q : Rep K ρ H w y) (h2 : flat w = true) : ∀ {vs : List Vl} {xs : List V}, Reps K ρ H vs xs → vs.all flat = true → (vs.any fun v => eqF v w) = inV y xs
  | _, _, .nil, _ => rfl
  | v :: vs, x :: xs, .cons h r, e => by
    rw [List.all_cons, Bool.and_eq_true] at e
    have e1 := eqF_V h q e.1 h2
    have e2 := any_V q h2 r e.2
    unfold inV at e2 ⊢
    rw [List.any_cons, List.any_cons, e1, e2]
end

section
variable {X : Cx}
theorem call_min3 (hc : X.calm = true) : CallR X (.builtin "min") (fun xs H Q => ∃ i j k, xs = [.int i, .int j, .int k] ∧ Q (.int (min (min i j) k)) H) := by
  intro pins s σ H xs us Q I r h
  obtain ⟨i, j, k, rfl, q⟩ := h
  obtain ⟨u1, u2, u3, rfl, ⟨t1, rfl⟩, ⟨t2, rfl⟩, ⟨t3, rfl⟩⟩ : ∃ u1 u2 u3, us = [u1, u2, u3] ∧ RelV (.int i) u1 ∧ RelV (.int j) u2 ∧ RelV (.int k) u3 := by
    cases r with
    | cons a r => cases r with
      | cons b r => cases r with
        | cons c r => cases r; exact ⟨_, _, _, rfl, a, b, c⟩
  refine PySem.min_three_ints (I.ok.hd hc) fun h' tk kp => ⟨_, H, I.kept kp, ?_, q⟩
  by_cases h1 : j < i
  · by_cases h2 : k < j
    · rw [if_pos h1, if_pos h2]; exact ⟨_, by congr 1; omega⟩
    · rw [if_pos h1, if_neg h2]; exact ⟨_, by congr 1; omega⟩
  · by_cases h2 : k < i
    · rw [if_neg h1, if_pos h2]; exact ⟨_, by congr 1; omega⟩
    · rw [if_neg h1, if_neg h2]; exact ⟨_, by congr 1; omega⟩
theorem call_max3 (hc : X.calm = true) : CallR X (.builtin "max") (fun xs H Q => ∃ i j k, xs = [.int i, .int j, .int k] ∧ Q (.int (max (max i j) k)) H) := by
  intro pins s σ H xs us Q I r h
  obtain ⟨i, j, k, rfl, q⟩ := h
  obtain ⟨u1, u2, u3, rfl, ⟨t1, rfl⟩, ⟨t2, rfl⟩, ⟨t3, rfl⟩⟩ : ∃ u1 u2 u3, us = [u1, u2, u3] ∧ RelV (.int i) u1 ∧ RelV (.int j) u2 ∧ RelV (.int k) u3 := by
    cases r with
    | cons a r => cases r with
      | cons b r => cases r with
        | cons c r => cases r; exact ⟨_, _, _, rfl, a, b, c⟩
  refine PySem.max_three_ints (I.ok.hd hc) fun h' tk kp => ⟨_, H, I.kept kp, ?_, q⟩
  by_cases h1 : j > i
  · by_cases h2 : k > j
    · rw [if_pos h1, if_pos h2]; exact ⟨_, by congr 1; omega⟩
    · rw [if_pos h1, if_neg h2]; exact ⟨_, by congr 1; omega⟩
  · by_cases h2 : k > i
    · rw [if_neg h1, if_pos h2]; exact ⟨_, by congr 1; omega⟩
    · rw [if_neg h1, if_neg h2]; exact ⟨_, by congr 1; omega⟩
theorem opBin (op : Operator) : OpR X (binaryOp op) (LR2 X.K (binW op)) := by
  intro pins s σ H x y v u Q I rx ry h
  obtain ⟨a, b, μ, ρ, m, ra, rb, h⟩ := h
  unfold binW at h
  split at h
  · -- Add
    split at h
    · cases ra.int_of; cases rb.int_of
      exact op_add pins s σ H _ _ v u Q I rx ry ⟨_, _, rfl, rfl, h.self m (.int _)⟩
    · cases ra; cases rb
      exact op_addB pins s σ H _ _ v u Q I rx ry ⟨_, _, rfl, rfl, h.self m (.int _)⟩
    · obtain ⟨p, xs, rfl, q1, r1⟩ := ra.tup_of
      obtain ⟨p2, ys, rfl, q2, r2⟩ := rb.tup_of
      obtain ⟨hz, h⟩ := h
      rw [r1.length, r2.length] at hz
      refine op_catA pins s σ H _ _ v u Q I rx ry ⟨p, p2, xs, ys, rfl, rfl, q1, q2, hz, fun e => ?_, fun e1 e2 => ?_, fun e1 e2 p hp => h.tup m (r1.append r2) hp⟩
      · subst e
        cases r1
        exact h.self m (.tup q2 r2)
      · subst e2
        cases r2
        rw [List.append_nil] at h
        exact h.self m (.tup q1 r1)
    · cases ra.str_of; cases rb.str_of
      exact op_add_str pins s σ H _ _ v u Q I rx ry ⟨_, _, rfl, rfl, h.1, h.2.self m (.str _)⟩
    · obtain ⟨p, rfl, q1⟩ := ra.ref_of
      obtain ⟨p2, rfl, q2⟩ := rb.ref_of
      split at h
      · rename_i e1 e2
        obtain ⟨xs, h1, r1⟩ := mut_of m e1 q1
        obtain ⟨ys, h2, r2⟩ := mut_of m e2 q2
        obtain ⟨hz, h⟩ := h
        rw [r1.length, r2.length] at hz
        exact op_cat pins s σ H _ _ v u Q I rx ry ⟨p, p2, xs, ys, rfl, rfl, h1, h2, hz, fun p hp => h.lst m (r1.append r2) hp⟩
      · exact False.elim h
    · exact False.elim h
  · split at h
    · cases ra.int_of; cases rb.int_of
      exact op_sub pins s σ H _ _ v u Q I rx ry ⟨_, _, rfl, rfl, h.self m (.int _)⟩
    · cases ra; cases rb
      exact op_subB pins s σ H _ _ v u Q I rx ry ⟨_, _, rfl, rfl, h.self m (.int _)⟩
    · cases ra; cases rb
      exact op_subI pins s σ H _ _ v u Q I rx ry ⟨_, _, rfl, rfl, h.self m (.int _)⟩
    · exact False.elim h
  · split at h
    · cases ra.int_of; cases rb.int_of
      obtain ⟨⟨n1, n2, h1, h2, h3⟩, h⟩ := h
      exact op_mulX pins s σ H _ _ v u Q I rx ry ⟨_, _, rfl, rfl, mulx_ok h1 h2 h3, h.self m (.int _)⟩
    · cases rb.int_of
      obtain ⟨p, rfl, q1⟩ := ra.ref_of
      split at h
      · rename_i e1
        obtain ⟨xs, h1, r1⟩ := mut_of m e1 q1
        obtain ⟨⟨k1, k2, hz⟩, h⟩ := h
        rw [r1.length] at hz
        exact op_rep pins s σ H _ _ v u Q I rx ry ⟨p, _, xs, rfl, rfl, h1, k1, k2, hz, fun p hp => h.lst m (r1.rep _) hp⟩
      · exact False.elim h
    · cases rb.int_of
      obtain ⟨p, xs, rfl, q1, r1⟩ := ra.tup_of
      obtain ⟨⟨k1, k2, hz⟩, h⟩ := h
      rw [r1.length] at hz
      cases r1 with
      | nil =>
        have e : (List.replicate (Int.toNat ‹Int›) ([] : List Vl)).flatten = [] := by simp
        refine op_rep0 pins s σ H _ _ v u Q I rx ry ⟨p, _, rfl, rfl, q1, k1, k2, ?_⟩
        rw [e] at h
        exact h.self m (.tup q1 .nil)
      | cons rh rs =>
        by_cases c0 : ‹Int› = 0
        · subst c0
          exact op_repZ pins s σ H _ _ v u Q I rx ry ⟨p, _, rfl, rfl, q1, by simp, fun p hp => h.tup m .nil hp⟩
        by_cases c1 : ‹Int› = 1
        · subst c1
          have e : ∀ l : List Vl, (List.replicate (Int.toNat 1) l).flatten = l := fun l => List.append_nil l
          rw [e] at h
          exact op_rep1 pins s σ H _ _ v u Q I rx ry ⟨p, _, rfl, rfl, q1, h.self m (.tup q1 (.cons rh rs))⟩
        have k1 : 2 ≤ ‹Int› := by omega
        exact op_repT pins s σ H _ _ v u Q I rx ry ⟨p, _, _, rfl, rfl, q1, by simp, k1, k2, hz, fun p hp => h.tup m ((Reps.cons rh rs).rep _) hp⟩
    · cases ra.str_of; cases rb.int_of
      obtain ⟨⟨k1, k2, k3, k4⟩, h⟩ := h
      exact op_mulS pins s σ H _ _ v u Q I rx ry ⟨_, _, rfl, rfl, k1, k2, k3, k4, h.self m (.str _)⟩
    · exact False.elim h
  · split at h
    · cases ra.int_of; cases rb.int_of
      obtain ⟨⟨h0, n, h1, h2, h3⟩, h⟩ := h
      exact op_fdivW pins s σ H _ _ v u Q I rx ry ⟨_, _, rfl, rfl, wide_div h0 h1 h2 h3, h.self m (.int _)⟩
    · exact False.elim h
  · split at h
    · cases ra.int_of; cases rb.int_of
      exact op_mod pins s σ H _ _ v u Q I rx ry ⟨_, _, rfl, rfl, h.1, h.2.self m (.int _)⟩
    · exact False.elim h
  · split at h
    · cases ra.int_of; cases rb.int_of
      exact op_pow pins s σ H _ _ v u Q I rx ry ⟨_, _, rfl, rfl, h.1, h.2.self m (.int _)⟩
    · exact False.elim h
  · split at h
    · cases ra.int_of; cases rb.int_of
      obtain ⟨⟨rfl, h0, h1⟩, h⟩ := h
      obtain ⟨n, rfl⟩ := Int.eq_ofNat_of_zero_le h0
      exact op_oneShl pins s σ H _ _ v u Q I rx ry ⟨n, rfl, rfl, by omega, h.self m (.int _)⟩
    · exact False.elim h
  · split at h
    · cases ra.int_of; cases rb.int_of
      obtain ⟨h0, h⟩ := h
      exact op_shr pins s σ H _ _ v u Q I rx ry ⟨_, _, rfl, rfl, h0, h.self m (.int _)⟩
    · exact False.elim h
  · split at h
    · cases ra.int_of; cases rb.int_of
      obtain ⟨⟨h0, rfl⟩, h⟩ := h
      obtain ⟨n, rfl⟩ := Int.eq_ofNat_of_zero_le h0
      exact op_odd pins s σ H _ _ v u Q I rx ry ⟨n, rfl, rfl, by
        have e : ((n : Int) % 2) = ((n % 2 : Nat) : Int) := by omega
        rw [e] at h
        exact h.self m (.int _)⟩
    · exact False.elim h
  · exact False.elim h

theorem dn_of {v u : Vl} {x y : V} {P : List (NestedKey × Vl) → NestedKey → Prop} (m : MemOk X.K ρ H μ) (rv : Rep X.K ρ H v x) (ru : Rep X.K ρ H u y) (h : dnW μ v u P) :
    ∃ r a kvs xs k b, v = .ref r ∧ ndAt μ r = some kvs ∧ ρ[r]? = some a ∧ x = .ref a ∧ y = .ref b ∧ NdX X.K ρ H kvs a xs ∧ nkOf (keyVl k) = some k ∧ Rep X.K ρ H (keyVl k) (.ref b) ∧ P kvs k := by
  unfold dnW at h
  split at h
  · rename_i r
    obtain ⟨a, rfl, q⟩ := rv.ref_of
    split at h
    · rename_i kvs e1
      split at h
      · rename_i k e2
        obtain ⟨h1, _, _, h4⟩ := nkOf_ok e2
        have h5 := ru
        rw [← h1] at h5
        cases u with
        | tup vs =>
          obtain ⟨b, ys, rfl, _, _⟩ := ru.tup_of
          obtain ⟨xs, N⟩ := nd_of m e1 q
          exact ⟨r, a, kvs, xs, k, b, rfl, e1, q, rfl, rfl, N, h4, h5, h⟩
        | _ => cases e2
      · exact False.elim h
    · exact False.elim h
  · exact False.elim h
theorem strs_rep {K : PySem.W.Frag} {ρ : List Addr} {H : Hp} : ∀ {vs : List Vl} {xs : List V} {ys : List Str}, Reps K ρ H vs xs → optAll strOf vs = some ys → xs = ys.map V.str
  | _, _, ys, .nil, e => by
    simp only [optAll, Option.some.injEq] at e
    subst e; rfl
  | v :: vs, _, ys, .cons h r, e => by
    simp only [optAll] at e
    cases v with
    | str s =>
      cases h
      cases q : optAll strOf vs with
      | none => simp [strOf, q] at e
      | some zs =>
        simp [strOf, q] at e
        subst e
        rw [List.map_cons, strs_rep r q]
    | _ => simp [strOf] at e
theorem reps_strs {K : PySem.W.Frag} {ρ : List Addr} {H : Hp} : ∀ ys : List Str, Reps K ρ H (ys.map Vl.str) (ys.map V.str)
  | [] => .nil
  | y :: ys => .cons (.str y) (reps_strs ys)
theorem in_dct (hu : X.A.units + 65 < cLine) {pins : List (Addr × Obj)} {s : Shared} {σ : L2.St} {x y : V} {v u : Value} {a b : Vl} {P : Bool → Prop} {Q : Value → Shared → Prop} (I : Inv X pins σ H s) (rx : RelV x v) (ry : RelV y u)
    (m : MemOk X.K ρ H μ) (ra : Rep X.K ρ H a x) (rb : Rep X.K ρ H b y) (h : inW μ b a P) (q : ∀ {c : Bool} s', Inv X pins σ H s' → P c → Q (.bool c) s') : wpAny (model X.prog X.w) X.A (compareOp .In v u) Q X.xe s := by
  cases a with
  | tup t =>
    obtain ⟨r, p, kvs, xs, k, d, _, _, _, rfl, rfl, N, nk, rk, h⟩ := dn_of m rb ra (show dnW μ b (.tup t) _ from h)
    obtain rfl : u = Value.ref p := ry
    obtain rfl : v = Value.ref d := rx
    exact nd_in hu I N nk rk fun s2 I2 => q s2 I2 h
  | str i =>
    cases b with
    | str j =>
      cases ra.str_of; cases rb.str_of
      refine thn (op_in_str pins s σ H _ _ v u (fun z H1 => z = .bl (inStr j i) ∧ H1 = H) I rx ry ⟨_, _, rfl, rfl, rfl, rfl⟩) fun w s1 ⟨z, H1, I1, rz, e1, e2⟩ => ?_
      subst e1 e2
      obtain rfl : w = Value.bool (inStr j i) := rz
      exact q s1 I1 h
    | _ =>
      simp only [inW] at h
      obtain ⟨r, p, kvs, ks, k, _, _, _, rfl, rfl, hp, rel, h⟩ := dk_of m rb ra h
      obtain rfl : u = Value.ref p := ry
      rw [rel.isSome] at h
      exact d_in (by omega) I (dgetR hp) rx fun s2 I2 => q s2 I2 h
  | _ =>
    simp only [inW] at h
    obtain ⟨r, p, kvs, ks, k, _, _, _, rfl, rfl, hp, rel, h⟩ := dk_of m rb ra h
    obtain rfl : u = Value.ref p := ry
    rw [rel.isSome] at h
    exact d_in (by omega) I (dgetR hp) rx fun s2 I2 => q s2 I2 h
theorem notIn_dct (hu : X.A.units + 65 < cLine) {pins : List (Addr × Obj)} {s : Shared} {σ : L2.St} {x y : V} {v u : Value} {a b : Vl} {P : Bool → Prop} {Q : Value → Shared → Prop} (I : Inv X pins σ H s) (rx : RelV x v) (ry : RelV y u)
    (m : MemOk X.K ρ H μ) (ra : Rep X.K ρ H a x) (rb : Rep X.K ρ H b y) (h : inW μ b a P) (q : ∀ {c : Bool} s', Inv X pins σ H s' → P c → Q (.bool (!c)) s') : wpAny (model X.prog X.w) X.A (compareOp .NotIn v u) Q X.xe s := by
  cases a with
  | tup t =>
    obtain ⟨r, p, kvs, xs, k, d, _, _, _, rfl, rfl, N, nk, rk, h⟩ := dn_of m rb ra (show dnW μ b (.tup t) _ from h)
    obtain rfl : u = Value.ref p := ry
    obtain rfl : v = Value.ref d := rx
    exact nd_notIn hu I N nk rk fun s2 I2 => q s2 I2 h
  | str i =>
    cases b with
    | str j =>
      cases ra.str_of; cases rb.str_of
      refine thn (op_notin_str pins s σ H _ _ v u (fun z H1 => z = .bl (!(inStr j i)) ∧ H1 = H) I rx ry ⟨_, _, rfl, rfl, rfl, rfl⟩) fun w s1 ⟨z, H1, I1, rz, e1, e2⟩ => ?_
      subst e1 e2
      obtain rfl : w = Value.bool (!(inStr j i)) := rz
      exact q s1 I1 h
    | _ =>
      simp only [inW] at h
      obtain ⟨r, p, kvs, ks, k, _, _, _, rfl, rfl, hp, rel, h⟩ := dk_of m rb ra h
      obtain rfl : u = Value.ref p := ry
      rw [rel.isSome] at h
      exact d_notIn (by omega) I (dgetR hp) rx fun s2 I2 => q s2 I2 h
  | _ =>
    simp only [inW] at h
    obtain ⟨r, p, kvs, ks, k, _, _, _, rfl, rfl, hp, rel, h⟩ := dk_of m rb ra h
    obtain rfl : u = Value.ref p := ry
    rw [rel.isSome] at h
    exact d_notIn (by omega) I (dgetR hp) rx fun s2 I2 => q s2 I2 h
theorem dats_of (m : MemOk X.K ρ H μ) {a : Vl} {vs : List Vl} {x : V} {xs : List V} {p : PyData × List PyData} (ra : Rep X.K ρ H a x) (rs : Reps X.K ρ H vs xs) (e : datsOf μ a vs = some p) :
    Dp X.K H x p.1 ∧ DpAll X.K H xs p.2 ∧ p.1.plain = true ∧ p.1.depth ≤ 64 ∧ PyData.plainAll p.2 = true := by
  unfold datsOf at e
  split at e
  · rename_i e1 e2
    split at e
    · rename_i hs
      cases e
      rw [Bool.and_eq_true] at hs
      have sh : ∀ d, SeqAt.shaped d = true → d.plain = true ∧ d.depth ≤ 64 := fun d h => by
        unfold SeqAt.shaped at h
        rw [Bool.and_eq_true, decide_eq_true_eq] at h
        exact ⟨PyData.plain_of_canLay0 d h.1, h.2⟩
      have all : ∀ ds : List PyData, ds.all SeqAt.shaped = true → PyData.plainAll ds = true := by
        intro ds
        induction ds with
        | nil => intro _; rfl
        | cons d ds ih =>
          intro h
          rw [List.all_cons, Bool.and_eq_true] at h
          show (d.plain && PyData.plainAll ds) = true
          rw [(sh d h.1).1, ih h.2]; rfl
      exact ⟨toD_dp m 60 _ x _ ra e1, optAll_dp (toD_dp m 60) rs e2, (sh _ hs.1).1, (sh _ hs.1).2, all _ hs.2⟩
    · cases e
  · cases e
theorem units64 (hu : X.A.units + 65 < cLine) {d : PyData} {ds : List PyData} (h : d.depth ≤ 64) : X.A.units + 1 + min (PyData.depthAll ds) d.depth < cLine := by
  have := Nat.min_le_right (PyData.depthAll ds) d.depth
  omega
theorem in_seq (hu : X.A.units + 65 < cLine) {pins : List (Addr × Obj)} {s : Shared} {σ : L2.St} {x y : V} {v u : Value} {a b : Vl} {vs : List Vl} {P : Bool → Prop} {Q : VK} (I : Inv X pins σ H s) (rx : RelV x v) (ry : RelV y u)
    (m : MemOk X.K ρ H μ) (ra : Rep X.K ρ H a x) (rb : Rep X.K ρ H b y) (hc : seqOf μ b = some vs) (h : inS μ a vs P) (q : ∀ c, P c → Q (.bl c) H) : wpAny (model X.prog X.w) X.A (compareOp .In v u) (EP X pins σ Q) X.xe s := by
  obtain ⟨p, xs, rfl, rs, hq⟩ := seq_of m hc rb
  unfold inS at h
  split at h
  · split at h
    · rename_i e
      obtain ⟨d1, d2, d3, d4, d5⟩ := dats_of m ra rs e
      obtain ⟨as, r1⟩ := Dp.reads I _ x v d1 rx
      cases ry
      rcases hq with hq | hq
      · obtain ⟨its, r, pl, hz⟩ := I.list hq
        obtain ⟨bs, r2⟩ := Dp.readsAll I _ xs its d2 r
        refine SeqAt.in_listAt _ pl.isList (SeqAt.items_plain (vs := its.toArray) r2 r1 d5 d3 (units64 hu d4)) ?_
        rw [SeqAt.any_plain (vs := its.toArray) r2 d5]
        exact ⟨.bl _, H, I, rfl, q _ h⟩
      · obtain ⟨its, r, pl, hz⟩ := I.tuple hq
        obtain ⟨bs, r2⟩ := Dp.readsAll I _ xs its d2 r
        refine SeqAt.in_tupleAt _ pl (SeqAt.items_plain (vs := its.toArray) r2 r1 d5 d3 (units64 hu d4)) ?_
        rw [SeqAt.any_plain (vs := its.toArray) r2 d5]
        exact ⟨.bl _, H, I, rfl, q _ h⟩
    · exact False.elim h
  · split at h
    · rename_i e
      obtain ⟨d1, d2, d3, d4, d5⟩ := dats_of m ra rs e
      obtain ⟨as, r1⟩ := Dp.reads I _ x v d1 rx
      cases ry
      rcases hq with hq | hq
      · obtain ⟨its, r, pl, hz⟩ := I.list hq
        obtain ⟨bs, r2⟩ := Dp.readsAll I _ xs its d2 r
        refine SeqAt.in_listAt _ pl.isList (SeqAt.items_plain (vs := its.toArray) r2 r1 d5 d3 (units64 hu d4)) ?_
        rw [SeqAt.any_plain (vs := its.toArray) r2 d5]
        exact ⟨.bl _, H, I, rfl, q _ h⟩
      · obtain ⟨its, r, pl, hz⟩ := I.tuple hq
        obtain ⟨bs, r2⟩ := Dp.readsAll I _ xs its d2 r
        refine SeqAt.in_tupleAt _ pl (SeqAt.items_plain (vs := its.toArray) r2 r1 d5 d3 (units64 hu d4)) ?_
        rw [SeqAt.any_plain (vs := its.toArray) r2 d5]
        exact ⟨.bl _, H, I, rfl, q _ h⟩
    · exact False.elim h
  · obtain ⟨hf, h⟩ := h
    rw [Bool.and_eq_true] at hf
    rw [any_V ra hf.1 rs hf.2] at h
    exact op_in_seq pins s σ H _ _ v u Q I rx ry ⟨p, xs, rfl, hq, flat_V ra hf.1, flats_V rs hf.2, q _ h⟩
theorem notIn_seq (hu : X.A.units + 65 < cLine) {pins : List (Addr × Obj)} {s : Shared} {σ : L2.St} {x y : V} {v u : Value} {a b : Vl} {vs : List Vl} {P : Bool → Prop} {Q : VK} (I : Inv X pins σ H s) (rx : RelV x v) (ry : RelV y u)
    (m : MemOk X.K ρ H μ) (ra : Rep X.K ρ H a x) (rb : Rep X.K ρ H b y) (hc : seqOf μ b = some vs) (h : inS μ a vs P) (q : ∀ c, P c → Q (.bl (!c)) H) : wpAny (model X.prog X.w) X.A (compareOp .NotIn v u) (EP X pins σ Q) X.xe s := by
  obtain ⟨p, xs, rfl, rs, hq⟩ := seq_of m hc rb
  unfold inS at h
  split at h
  · split at h
    · rename_i e
      obtain ⟨d1, d2, d3, d4, d5⟩ := dats_of m ra rs e
      obtain ⟨as, r1⟩ := Dp.reads I _ x v d1 rx
      cases ry
      rcases hq with hq | hq
      · obtain ⟨its, r, pl, hz⟩ := I.list hq
        obtain ⟨bs, r2⟩ := Dp.readsAll I _ xs its d2 r
        refine SeqAt.notIn_listAt _ pl.isList (SeqAt.items_plain (vs := its.toArray) r2 r1 d5 d3 (units64 hu d4)) ?_
        rw [SeqAt.any_plain (vs := its.toArray) r2 d5]
        exact ⟨.bl _, H, I, rfl, q _ h⟩
      · obtain ⟨its, r, pl, hz⟩ := I.tuple hq
        obtain ⟨bs, r2⟩ := Dp.readsAll I _ xs its d2 r
        refine SeqAt.notIn_tupleAt _ pl (SeqAt.items_plain (vs := its.toArray) r2 r1 d5 d3 (units64 hu d4)) ?_
        rw [SeqAt.any_plain (vs := its.toArray) r2 d5]
        exact ⟨.bl _, H, I, rfl, q _ h⟩
    · exact False.elim h
  · split at h
    · rename_i e
      obtain ⟨d1, d2, d3, d4, d5⟩ := dats_of m ra rs e
      obtain ⟨as, r1⟩ := Dp.reads I _ x v d1 rx
      cases ry
      rcases hq with hq | hq
      · obtain ⟨its, r, pl, hz⟩ := I.list hq
        obtain ⟨bs, r2⟩ := Dp.readsAll I _ xs its d2 r
        refine SeqAt.notIn_listAt _ pl.isList (SeqAt.items_plain (vs := its.toArray) r2 r1 d5 d3 (units64 hu d4)) ?_
        rw [SeqAt.any_plain (vs := its.toArray) r2 d5]
        exact ⟨.bl _, H, I, rfl, q _ h⟩
      · obtain ⟨its, r, pl, hz⟩ := I.tuple hq
        obtain ⟨bs, r2⟩ := Dp.readsAll I _ xs its d2 r
        refine SeqAt.notIn_tupleAt _ pl (SeqAt.items_plain (vs := its.toArray) r2 r1 d5 d3 (units64 hu d4)) ?_
        rw [SeqAt.any_plain (vs := its.toArray) r2 d5]
        exact ⟨.bl _, H, I, rfl, q _ h⟩
    · exact False.elim h
  · obtain ⟨hf, h⟩ := h
    rw [Bool.and_eq_true] at hf
    rw [any_V ra hf.1 rs hf.2] at h
    exact op_notIn_seq pins s σ H _ _ v u Q I rx ry ⟨p, xs, rfl, hq, flat_V ra hf.1, flats_V rs hf.2, q _ h⟩
theorem op_isB : OpR X (compareOp .Is) (fun x y H Q => ∃ c b, x = .bl c ∧ y = .bl b ∧ Q (.bl (decide (c = b))) H) := by
  intro pins s σ H x y v u Q I rx ry h
  obtain ⟨c, b, rfl, rfl, q⟩ := h
  obtain rfl : v = Value.bool c := rx
  obtain rfl : u = Value.bool b := ry
  by_cases e : c = b
  · subst e
    exact wpAny_is_self rfl ⟨.bl true, H, I, rfl, by simpa using q⟩
  · exact wpAny_is_other rfl (fun z => e (Value.bool.inj z)) ⟨.bl false, H, I, rfl, by simpa [e] using q⟩
theorem op_notB : OpR X (compareOp .IsNot) (fun x y H Q => ∃ c b, x = .bl c ∧ y = .bl b ∧ Q (.bl (!decide (c = b))) H) := by
  intro pins s σ H x y v u Q I rx ry h
  obtain ⟨c, b, rfl, rfl, q⟩ := h
  obtain rfl : v = Value.bool c := rx
  obtain rfl : u = Value.bool b := ry
  by_cases e : c = b
  · subst e
    exact wpAny_isNot_self rfl ⟨.bl false, H, I, rfl, by simpa using q⟩
  · exact wpAny_isNot_other rfl (fun z => e (Value.bool.inj z)) ⟨.bl true, H, I, rfl, by simpa [e] using q⟩
theorem opCmp (hu : X.A.units + 65 < cLine) (op : CmpOp) : OpR X (compareOp op) (LR2 X.K (cmpW op)) := by
  intro pins s σ H x y v u Q I rx ry h
  obtain ⟨a, b, μ, ρ, m, ra, rb, h⟩ := h
  have eqs : ∀ c, eqV μ a b = some c → (∃ y z, a = .str y ∧ b = .str z ∧ c = decide (y = z)) ∨ (∃ vs, a = .tup vs ∧ b = .tup [] ∧ c = vs.isEmpty) ∨ (∃ r s kvs, a = .ref r ∧ b = .ref s ∧ ndAt μ r = some kvs ∧ ndAt μ s = some [] ∧ c = kvs.isEmpty) ∨ ∃ d e, Dp X.K H x d ∧ Dp X.K H y e ∧ SeqAt.shaped d = true ∧ SeqAt.shaped e = true ∧ c = PyData.eqv d e := fun c hc => by
    unfold PV.eqV at hc
    split at hc
    · rename_i e0
      cases hc
      unfold strs2 at e0
      split at e0
      · cases e0
        exact .inl ⟨_, _, rfl, rfl, rfl⟩
      · cases e0
    · split at hc
      · rename_i e0
        cases hc
        unfold nilT at e0
        split at e0
        · cases e0
          exact .inr (.inl ⟨_, rfl, rfl, rfl⟩)
        · cases e0
      split at hc
      · rename_i e1 e2
        split at hc
        · rename_i hs
          rw [Bool.and_eq_true] at hs
          cases hc
          exact .inr (.inr (.inr ⟨_, _, toD_dp m 60 a x _ ra e1, toD_dp m 60 b y _ rb e2, hs.1, hs.2, rfl⟩))
        · cases hc
      · unfold nilN at hc
        split at hc
        · split at hc
          · rename_i n1 n2
            cases hc
            exact .inr (.inr (.inl ⟨_, _, _, rfl, rfl, n1, n2, rfl⟩))
          · cases hc
        · cases hc
  have dS : ∀ y z : Str, decide (V.str y = V.str z) = decide (y = z) := fun y z => by simp
  unfold cmpW at h
  split at h
  · split at h
    · rename_i c hc
      rcases eqs c hc with ⟨y, z, rfl, rfl, rfl⟩ | ⟨vs, rfl, rfl, rfl⟩ | ⟨r, s', kvs, rfl, rfl, n1, n2, rfl⟩ | ⟨d, e, h1, h2, h3, h4, rfl⟩
      · cases ra.str_of; cases rb.str_of
        exact op_eq pins s σ H _ _ v u Q I rx ry ⟨rfl, by rw [dS]; exact h.self m (.bool _)⟩
      · obtain ⟨p1, xs, rfl, q1, r1⟩ := ra.tup_of
        obtain ⟨p2, ys, rfl, q2, r2⟩ := rb.tup_of
        cases r2
        have e : vs.isEmpty = xs.isEmpty := by cases r1 <;> rfl
        rw [e] at h
        exact op_eqN (by omega) pins s σ H _ _ v u Q I rx ry ⟨_, _, _, rfl, rfl, q1, q2, h.self m (.bool _)⟩
      · obtain ⟨p1, rfl, q1⟩ := ra.ref_of
        obtain ⟨p2, rfl, q2⟩ := rb.ref_of
        obtain rfl : v = Value.ref p1 := rx
        obtain rfl : u = Value.ref p2 := ry
        obtain ⟨xs, N⟩ := nd_of m n1 q1
        obtain ⟨ys, M⟩ := nd_of m n2 q2
        have ey : ys = [] := by
          have := M.len
          cases ys with
          | nil => rfl
          | cons => cases this
        subst ey
        exact nd_eqE (by omega) I N M ⟨.bl _, H, I, rfl, h.self m (.bool _)⟩
      exact op_eqD (by omega) pins s σ H x y v u Q I rx ry ⟨d, e, h1, h2, h3, h4, h.self m (.bool _)⟩
    · exact False.elim h
  · split at h
    · rename_i c hc
      rcases eqs c hc with ⟨y, z, rfl, rfl, rfl⟩ | ⟨vs, rfl, rfl, rfl⟩ | ⟨r, s', kvs, rfl, rfl, n1, n2, rfl⟩ | ⟨d, e, h1, h2, h3, h4, rfl⟩
      · cases ra.str_of; cases rb.str_of
        exact op_ne pins s σ H _ _ v u Q I rx ry ⟨rfl, by rw [dS]; exact h.self m (.bool _)⟩
      · obtain ⟨p1, xs, rfl, q1, r1⟩ := ra.tup_of
        obtain ⟨p2, ys, rfl, q2, r2⟩ := rb.tup_of
        cases r2
        have e : vs.isEmpty = xs.isEmpty := by cases r1 <;> rfl
        rw [e] at h
        exact op_neN (by omega) pins s σ H _ _ v u Q I rx ry ⟨_, _, _, rfl, rfl, q1, q2, h.self m (.bool _)⟩
      · obtain ⟨p1, rfl, q1⟩ := ra.ref_of
        obtain ⟨p2, rfl, q2⟩ := rb.ref_of
        obtain rfl : v = Value.ref p1 := rx
        obtain rfl : u = Value.ref p2 := ry
        obtain ⟨xs, N⟩ := nd_of m n1 q1
        obtain ⟨ys, M⟩ := nd_of m n2 q2
        have ey : ys = [] := by
          have := M.len
          cases ys with
          | nil => rfl
          | cons => cases this
        subst ey
        exact nd_neE (by omega) I N M ⟨.bl _, H, I, rfl, h.self m (.bool _)⟩
      exact op_neD (by omega) pins s σ H x y v u Q I rx ry ⟨d, e, h1, h2, h3, h4, h.self m (.bool _)⟩
    · exact False.elim h
  · split at h
    · cases ra.int_of; cases rb.int_of
      exact op_lt pins s σ H _ _ v u Q I rx ry ⟨_, _, rfl, rfl, h.self m (.bool _)⟩
    · exact False.elim h
  · split at h
    · cases ra.int_of; cases rb.int_of
      exact op_le pins s σ H _ _ v u Q I rx ry ⟨_, _, rfl, rfl, h.self m (.bool _)⟩
    · exact False.elim h
  · split at h
    · cases ra.int_of; cases rb.int_of
      exact op_gt pins s σ H _ _ v u Q I rx ry ⟨_, _, rfl, rfl, h.self m (.bool _)⟩
    · exact False.elim h
  · split at h
    · cases ra.int_of; cases rb.int_of
      exact op_ge pins s σ H _ _ v u Q I rx ry ⟨_, _, rfl, rfl, h.self m (.bool _)⟩
    · exact False.elim h
  · split at h
    · cases rb.none_of
      have e : decide (x = .non) = isNone a := by cases ra <;> simp [isNone]
      exact op_isN pins s σ H _ _ v u Q I rx ry ⟨rfl, by rw [e]; exact h.self m (.bool _)⟩
    · split at h
      · refine op_isB pins s σ H _ _ v u Q I rx ry ?_
        cases ra; cases rb
        exact ⟨_, _, rfl, rfl, h.self m (.bool _)⟩
      · exact False.elim h
    · exact False.elim h
  · split at h
    · cases rb.none_of
      have e : decide (x = .non) = isNone a := by cases ra <;> simp [isNone]
      exact op_notN pins s σ H _ _ v u Q I rx ry ⟨rfl, by rw [e]; exact h.self m (.bool _)⟩
    · split at h
      · refine op_notB pins s σ H _ _ v u Q I rx ry ?_
        cases ra; cases rb
        exact ⟨_, _, rfl, rfl, h.self m (.bool _)⟩
      · exact False.elim h
    · exact False.elim h
  · split at h
    · rename_i hc
      exact in_seq hu I rx ry m ra rb hc h fun c z => z.self m (.bool _)
    · exact in_dct hu I rx ry m ra rb h fun s2 I2 z => ⟨.bl _, H, I2, rfl, z.self m (.bool _)⟩
  · split at h
    · rename_i hc
      exact notIn_seq hu I rx ry m ra rb hc h fun c z => z.self m (.bool _)
    · exact notIn_dct hu I rx ry m ra rb h fun s2 I2 z => ⟨.bl _, H, I2, rfl, z.self m (.bool _)⟩
def LSl (K : PySem.W.Frag) : V → Option Int → Option Int → Hp → VK → Prop := fun x lo hi H Q => ∃ v μ ρ, MemOk K ρ H μ ∧ Rep K ρ H v x ∧ slcW μ v lo hi (LK K ρ H Q)
theorem Reps.cut {K : PySem.W.Frag} {ρ : List Addr} {H : Hp} {vs : List Vl} {xs : List V} (r : Reps K ρ H vs xs) (lo hi : Option Int) : Reps K ρ H (cutL vs lo hi) (cutV xs lo hi) := by
  unfold cutL cutV
  rw [r.length]
  exact (r.drop _).take _
theorem opSlc : SlR X (LSl X.K) := by
  intro pins s σ H x v vl vu lo hi sl Q I rx hs pl pu h
  obtain ⟨a, μ, ρ, m, ra, h⟩ := h
  unfold slcW at h
  split at h
  · rename_i ws
    obtain ⟨p, xs, rfl, q1, r1⟩ := ra.tup_of
    refine sl_tupA pins s σ H _ v vl vu lo hi sl Q I rx hs pl pu ⟨p, xs, rfl, q1, fun e => ?_, fun e p hp => h.tup m (r1.cut lo hi) hp⟩
    have e2 : cutL ws lo hi = ws := by
      unfold cutL
      rw [r1.length, e.1, e.2, List.drop_zero, Nat.sub_zero, ← r1.length]
      exact List.take_length
    rw [e2] at h
    exact h.self m (.tup q1 r1)
  · obtain ⟨p, rfl, q1⟩ := ra.ref_of
    split at h
    · rename_i e1
      obtain ⟨xs, h1, r1⟩ := lst_of m e1 q1
      exact sl_list pins s σ H _ v vl vu lo hi sl Q I rx hs pl pu ⟨p, xs, rfl, h1, fun p hp => h.lst m (r1.cut lo hi) hp⟩
    · exact False.elim h
  · cases ra.str_of
    exact sl_str pins s σ H _ v vl vu lo hi sl Q I rx hs pl pu ⟨_, rfl, h.1, h.2.self m (.str _)⟩
  · exact False.elim h
theorem ix_dct (hu : X.A.units + 65 < cLine) : IxR X (LR2 X.K dixW) := by
  intro value slice pins s σ H x y v u Q I rx ry h hs
  obtain ⟨a, b, μ, ρ, m, ra, rb, h⟩ := h
  obtain ⟨r, p, kvs, ks, k, _, _, _, rfl, rfl, hp, rel, h⟩ := dk_of m ra rb h
  obtain rfl : v = Value.ref p := rx
  rcases rel.get k with ⟨e1, e2⟩ | ⟨w, z, e1, e2, rz⟩
  · simp only [e1] at h
  · simp only [e1] at h
    have g : DGet H p (kV k) (some z) := .inl ⟨ks, k, hp, rfl, e2.symm⟩
    exact tail_any (dict_typeIs I g) PySem.F.slot_dict_getitem.lookup (d_getItem (by omega) I g ry fun w' s2 I2 rw' => ⟨z, H, I2, rw', h.self m rz⟩) hs
theorem ix_ndc (hu : X.A.units + 65 < cLine) : IxR X (LR2 X.K dinxW) := by
  intro value slice pins s σ H x y v u Q I rx ry h hs
  obtain ⟨a, b, μ, ρ, m, ra, rb, h⟩ := h
  obtain ⟨r, p, kvs, xs, k, d, _, _, _, rfl, rfl, N, nk, rk, h⟩ := dn_of m ra rb h
  obtain rfl : v = Value.ref p := rx
  obtain rfl : u = Value.ref d := ry
  split at h
  · rename_i w e
    exact tail_any (N.typeIs I) PySem.F.slot_dict_getitem.lookup (nd_getItem hu I N nk rk e fun z w' s2 rz rw' I2 => ⟨z, H, I2, rw', h.self m rz⟩) hs
  · exact False.elim h
theorem opIdx (hu : X.A.units + 65 < cLine) : IxR X (LR2 X.K idxW) := by
  intro value slice pins s σ H x y v u Q I rx ry h hs
  obtain ⟨a, b, μ, ρ, m, ra, rb, h⟩ := h
  unfold idxW at h
  split at h
  · have rb0 := rb
    cases rb.int_of
    split at h
    · cases ra.str_of
      obtain ⟨hz, h⟩ := h
      split at h
      · rename_i e
        exact ix_str value slice pins s σ H _ _ v u Q I rx ry ⟨_, _, _, rfl, rfl, hz, e, h.self m (.str _)⟩ hs
      · exact False.elim h
    · split at h
      · rename_i e1
        obtain ⟨p, xs, rfl, rs, q⟩ := seq_of m e1 ra
        split at h
        · rename_i ii _ _ _ _ _ vv e2
          have e3 : ∃ z, atI xs ii = some z ∧ Rep X.K ρ H vv z := by
            unfold atI at e2 ⊢
            rw [← rs.length]
            revert e2
            cases ixN _ _ with
            | none => intro e2; cases e2
            | some j => exact fun e2 => rs.get e2
          obtain ⟨z, e3, rz⟩ := e3
          rcases q with q | q
          · exact ix_list value slice pins s σ H _ _ v u Q I rx ry ⟨p, xs, _, z, rfl, rfl, q, e3, h.self m rz⟩ hs
          · exact ix_tup value slice pins s σ H _ _ v u Q I rx ry ⟨p, xs, _, z, rfl, rfl, q, e3, h.self m rz⟩ hs
        · exact False.elim h
      · exact ix_dct hu value slice pins s σ H _ _ v u Q I rx ry ⟨_, _, μ, ρ, m, ra, rb, h⟩ hs
  · exact ix_dct hu value slice pins s σ H _ _ v u Q I rx ry ⟨_, _, μ, ρ, m, ra, rb, h⟩ hs
  · exact ix_ndc hu value slice pins s σ H _ _ v u Q I rx ry ⟨_, _, μ, ρ, m, ra, rb, h⟩ hs
  · exact False.elim h

/-! ### built-ins -/
theorem sum_tup {prog : Program} {w : World} {A : Around} {E : Value → Shared → Prop} {s : Shared} {l : Addr} {its : List Value} {ns : List Int} {Q : Value → Shared → Prop} (hh : A.handled = none) (hl : IsTup s.heap l its.toArray) (hi : IntsAre its ns)
    (h : ∀ h' tk t', (∀ b o, s.heap.get? b = some o → h'.get? b = some o) → Q (.int ns.sum t') { s with heap := h', toks := tk }) : wpAny (model prog w) A (call (.builtin "sum") [.ref l]) Q E s := by
  obtain ⟨xs, e⟩ := hi.allInts.items
  have hn : numsOf (intItems xs).toList = ns := by rw [← e]; exact hi.numsOf
  rw [nums_intItems] at hn
  rw [e] at hl
  have hT : s.heap.IsTuple l (intItems xs) := hl
  have hlt : l < s.heap.objs.size := by obtain ⟨_, e, _⟩ := hT; exact Heap.lt_size e
  refine call_sum_walkG (wpAny_pyIter_tuple hT ?_)
  refine ⟨_, [_, l], [_], _, _, _, numAt xs, rfl, Walks.tuple (A := A.in1) hh _ l (Nat.ne_of_lt hlt) (intItems xs), ⟨⟨_, Heap.get?_push_size _ rfl, rfl, rfl⟩, hT.push _⟩, fun c hc => ?_, (fun _ _ => intItems_at), fun h' tk t' hk => ?_⟩
  · show c < (s.heap.push _).objs.size
    rw [Heap.size_push]
    rcases List.mem_cons.mp hc with rfl | hc
    · exact Nat.lt_succ_self _
    · rcases List.mem_cons.mp hc with rfl | hc
      · exact Nat.lt_succ_of_lt hlt
      · cases hc
  · have := h h' tk t' fun b o e => by
      refine hk b o (fun hm => ?_) (Heap.get?_push_of_some _ e)
      rcases List.mem_cons.mp hm with e1 | hm
      · exact absurd (e1 ▸ Heap.lt_size e) (Nat.lt_irrefl _)
      · cases hm
    have e2 : preSum (numAt xs) (intItems xs).size = ns.sum := by
      have : (intItems xs).size = xs.size := by simp [intItems]
      rw [this, preSum_eq, List.take_of_length_le (by simp), hn]
    rw [e2]
    exact this

/-- sorted(d), keys whole numbers, any number of them -/
theorem cr_sortedDI (hc : X.calm = true) : CallR X (.builtin "sorted") (fun xs H Q => ∃ (a : Addr) (kvs : List (Key × V)) (ks : List Int), xs = [.ref a] ∧ H a = some (.dK kvs) ∧ kvs.map (·.1) = ks.map Sum.inl ∧
    ∀ (ys : List Int) (p : Addr), ys.Perm ks → ys.Pairwise (· ≤ ·) → H p = none → Q (.ref p) (upd H p (.lst (ys.map V.int)))) := by
  intro pins s σ H xs us Q I r q
  obtain ⟨a, kvs, ks, rfl, hd, hks, q⟩ := q
  obtain ⟨u, rfl, rx⟩ := vals1 r
  cases rx
  obtain ⟨z, lo, vs, rel, dd⟩ := dk_rd I.hok (.inl hd)
  obtain ⟨ep, hat⟩ := dd.dictAt
  have hkeys : vs.map (·.1) = ks.map Sum.inl := rel.keys.symm.trans hks
  have hl : vs.length = ks.length := by simpa using congrArg List.length hkeys
  have hz : vs.length ≤ sizeLine := by rw [← rel.length]; exact z
  refine Calls.call_function_entry PyProof.Rows.kind_sorted PyProof.Rows.plain_sorted PyProof.Rows.entry_sorted (PyProof.Rows.args_sorted1 _) ?_
  unfold Builtin.«sorted»
  refine wpAny_bind (m := checkCount "sorted" 1 1 _) (wpAny_pure (wpAny_bind (PySem.W.kdu_collect (A := X.A.in1) (PySem.W.kdl_dict (knd := mixKind X.prog X.w) (kvs := vs) (ep := ep) lo) (I.ok.hd hc) hat hz fun hh tk acc hk hacc => ?_)))
  have hal : acc.toList.length = ks.length := by rw [Array.length_toList, hacc.1, hl]
  have hin : IntsAre acc.toList ks := by
    refine ints_each hal fun j v e => ?_
    obtain ⟨k, x, e1, e2⟩ := hacc.2 j v (by rw [← Array.getElem?_toList]; exact e)
    have e3 : (ks.map Sum.inl)[j]? = some k := by rw [← hkeys, List.getElem?_map, e1]; rfl
    rw [List.getElem?_map, Option.map_eq_some_iff] at e3
    obtain ⟨y, e4, rfl⟩ := e3
    rcases keyIs_shape (show keyIs (Sum.inl y) v = true from e2) with ⟨i, t, ek, ev⟩ | ⟨w, t, ek, ev⟩
    · cases ek
      exact ⟨y, t, e4, ev⟩
    · cases ek
  have I1 : Inv X pins σ H { s with heap := hh, toks := tk } := I.kept hk
  refine wpAny_bind (wpAny_newList ?_ (by rw [hal, ← hl]; exact hz))
  have ob : (hh.push (seqObj "list" acc.toList.toArray 0)).get? hh.objs.size = some (seqObj "list" acc.toList.toArray 0) := Heap.get?_push_size _ rfl
  show wpAny _ _ _ _ _ { s with heap := hh.push (seqObj "list" acc.toList.toArray 0), toks := tk }
  refine wpAny_bind (wpAny_holding (wpAny_call_entry PyProof.Rows.slot_list_sort ⟨_, ob, rfl⟩ PyProof.Rows.entry_list_sort
    (SrtO.list_sort_ord (s := { s with heap := hh.push (seqObj "list" acc.toList.toArray 0), toks := tk }) SrtO.swo_int ob (by rw [hal, ← hl]; exact hz) (fun h2 => SrtO.ints_sortable hin h2) fun out g1 g2 => ⟨.none, rfl, ?_⟩) (PyProof.Rows.args_list_sort _)))
  obtain ⟨k1, k2, k3⟩ := SrtO.ints_out hin g1 g2
  obtain ⟨e', he'⟩ := PyProof.Rows.sortedHeap_at (vs := acc.toList) (out := out.toArray) ob
  have hlen : ((out.map SrtO.iv).map V.int).length ≤ sizeLine := by
    rw [List.length_map, k2.length_eq, ← hl]
    exact hz
  refine wpAny_pure ⟨_, rfl, .ref hh.objs.size, upd H hh.objs.size (.lst ((out.map SrtO.iv).map V.int)), I1.laid (t' := tk) (fun b u e => ?_) (Nat.le_refl _)
    (show ObjOk X.prog X.w _ _ _ (.lst ((out.map SrtO.iv).map V.int)) from ⟨hlen, out, e', vals_of_ints k1, he'⟩), rfl, q _ _ k2 k3 (I1.hok.fresh (Nat.le_refl _))⟩
  have hb : b < hh.objs.size := Heap.lt_size e
  rw [PyProof.Rows.sortedHeap_old (Nat.ne_of_lt hb) (by rw [size_push']; exact Nat.lt_succ_of_lt hb)]
  exact Heap.get?_push_of_some _ e

def bfName : Bf → Str × Bool × String
  | .len => ("len", false, "len")
  | .sum => ("sum", false, "sum")
  | .min2 => ("min", false, "min")
  | .max2 => ("max", false, "max")
  | .min1 => ("min", false, "min")
  | .max1 => ("max", false, "max")
  | .abs => ("abs", false, "abs")
  | .int1 => ("int", true, "int")
  | .bool1 => ("bool", true, "bool")
  | .dict1 => ("dict", true, "dict")
  | .all1 => ("all", false, "all")
  | .any1 => ("any", false, "any")
  | .list1 => ("list", true, "list")
  | .tuple1 => ("tuple", true, "tuple")
  | .sorted1 => ("sorted", false, "sorted")
  | .isInt => ("isinstance", false, "int")
  | .isBool => ("isinstance", false, "bool")
  | .isTuple => ("isinstance", false, "tuple")
  | .isList => ("isinstance", false, "list")
  | .isStr => ("isinstance", false, "str")
def isIs : Bf → Bool
  | .isInt => true
  | .isBool => true
  | .isTuple => true
  | .isList => true
  | .isStr => true
  | _ => false
def bfVal (f : Bf) : Value := if (bfName f).2.1 then .type (bfName f).2.2 else .builtin (bfName f).2.2

theorem isTy_x {K : PySem.W.Frag} {ρ : List Addr} {H : Hp} {μ : Mem} {v : Vl} {x : V} (m : MemOk K ρ H μ) (r : Rep K ρ H v x) :
    (∃ t : Value, TyZ K H x t ∧ ∀ (f : Bf) (b : Bool), isTy f μ v = some b → PySem.W.kitOne K t (.type (bfName f).2.2) = some b) ∨ ∀ f, isTy f μ v = none := by
  have refs : ∀ i o, v = .ref i → μ[i]? = some o → (∃ a, TyX K H x (.type "list") ∧ x = .ref a ∧ ((∃ vs, o = .lst vs) ∨ ∃ vs, o = .frz vs)) ∨ (TyZ K H x (.type "dict") ∧ ((∃ kvs, o = .dct kvs) ∨ (∃ kvs, o = .ndc kvs) ∨ (∃ kvs, o = .nfz kvs) ∨ ∃ kvs, o = .dfz kvs)) ∨ (∃ c fs, o = .ins c fs) ∨ ∃ f, o = .tab f := fun i o hv e => by
    subst hv
    obtain ⟨a, rfl, q⟩ := r.ref_of
    obtain ⟨a', e1, ok⟩ := m.at' i o e
    rw [q] at e1; cases e1
    cases o with
    | lst vs => obtain ⟨xs, e2, _⟩ := ok; exact .inl ⟨a, .base (.lst e2), rfl, .inl ⟨_, rfl⟩⟩
    | frz vs =>
      obtain ⟨xs, e2, _⟩ := ok
      rcases e2 with ⟨o, e2⟩ | (e2 | ⟨o, e2⟩) | ⟨o, its, n, hk, hc, _⟩
      · exact .inl ⟨a, .base (.frz e2), rfl, .inr ⟨_, rfl⟩⟩
      · cases e2
      · cases e2
      · exact .inl ⟨a, .kList hk hc, rfl, .inr ⟨_, rfl⟩⟩
    | dct kvs => obtain ⟨ks, e2, _⟩ := ok; exact .inr (.inl ⟨.inl (.base (.dK e2)), .inl ⟨_, rfl⟩⟩)
    | ndc kvs => obtain ⟨ks, e2, _⟩ := ok; exact .inr (.inl ⟨.inr ⟨rfl, _, _, rfl, .inl e2⟩, .inr (.inl ⟨_, rfl⟩)⟩)
    | nfz kvs => obtain ⟨o, ks, e2, _⟩ := ok; exact .inr (.inl ⟨.inr ⟨rfl, _, _, rfl, .inr ⟨_, e2⟩⟩, .inr (.inr (.inl ⟨_, rfl⟩))⟩)
    | dfz kvs => obtain ⟨o, ks, e2, _⟩ := ok; exact .inr (.inl ⟨.inl (.fDict e2), .inr (.inr (.inr ⟨_, rfl⟩))⟩)
    | ins c fs => exact .inr (.inr (.inl ⟨_, _, rfl⟩))
    | tab f => exact .inr (.inr (.inr ⟨_, rfl⟩))
  have tups : ∀ vs, v = .tup vs → TyX K H x (.type "tuple") := fun vs hv => by
    subst hv
    obtain ⟨a, xs, rfl, q, _⟩ := r.tup_of
    rcases q with (q | ⟨o, q⟩) | ⟨o, its, n, hk, hc, _⟩
    · exact .base (.tup q)
    · exact .fTuple q
    · exact .kTuple hk hc
  cases v with
  | none => cases r; refine .inl ⟨_, .inl (.base .non), fun f b h => ?_⟩; revert h; cases f <;> intro h <;> first | (simp only [isTy, Option.some.injEq] at h; subst h; exact kit_ty (by decide +kernel)) | simp [isTy] at h
  | bool c => cases r; refine .inl ⟨_, .inl (.base (.bl c)), fun f b h => ?_⟩; revert h; cases f <;> intro h <;> first | (simp only [isTy, Option.some.injEq] at h; subst h; exact kit_ty (by decide +kernel)) | simp [isTy] at h
  | int c => cases r; refine .inl ⟨_, .inl (.base (.int c)), fun f b h => ?_⟩; revert h; cases f <;> intro h <;> first | (simp only [isTy, Option.some.injEq] at h; subst h; exact kit_ty (by decide +kernel)) | simp [isTy] at h
  | str c => cases r; refine .inl ⟨_, .inl (.base (.str c)), fun f b h => ?_⟩; revert h; cases f <;> intro h <;> first | (simp only [isTy, Option.some.injEq] at h; subst h; exact kit_ty (by decide +kernel)) | simp [isTy] at h
  | tup vs => refine .inl ⟨_, .inl (tups vs rfl), fun f b h => ?_⟩; revert h; cases f <;> intro h <;> first | (simp only [isTy, Option.some.injEq] at h; subst h; exact kit_ty (by decide +kernel)) | simp [isTy] at h
  | ref i =>
    have there : ∃ o, μ[i]? = some o := by
      obtain ⟨a, _, q⟩ := r.ref_of
      have hl := (List.getElem?_eq_some_iff.mp q).1
      rw [m.len] at hl
      exact ⟨_, List.getElem?_eq_getElem hl⟩
    obtain ⟨o, e⟩ := there
    rcases refs i o rfl e with ⟨a, t, _, ho⟩ | ⟨t, ho⟩ | ⟨c, fs, rfl⟩ | ⟨tf, rfl⟩
    · refine .inl ⟨_, .inl t, fun f b h => ?_⟩
      rcases ho with ⟨vs, rfl⟩ | ⟨vs, rfl⟩ <;> revert h <;> cases f <;> intro h <;> first | (simp only [isTy, plainR, e, Option.some.injEq] at h; subst h; exact kit_ty (by decide +kernel)) | simp [isTy] at h
    · refine .inl ⟨_, t, fun f b h => ?_⟩
      rcases ho with ⟨kvs, rfl⟩ | ⟨kvs, rfl⟩ | ⟨kvs, rfl⟩ | ⟨kvs, rfl⟩ <;>
      revert h <;> cases f <;> intro h <;> first | (simp only [isTy, plainR, e, Option.some.injEq] at h; subst h; exact kit_ty (by decide +kernel)) | simp [isTy] at h
    · refine .inr fun f => ?_
      cases f <;> simp [isTy, plainR, e]
    · refine .inr fun f => ?_
      cases f <;> simp [isTy, plainR, e]

theorem iis_rep {K : PySem.W.Frag} {ρ : List Addr} {H : Hp} {vs : List Vl} : ∀ {ys : List V} {ps : List (Int × Int)}, Reps K ρ H vs ys → optAll pairII vs = some ps → ∃ as : List Addr, ys = as.map V.ref ∧ Paired (fun p (q : Int × Int) => SqT K H p [V.int q.1, V.int q.2]) as ps := by
  induction vs with
  | nil => intro ys ps r e; cases r; cases e; exact ⟨[], rfl, .nil⟩
  | cons v vs ih =>
    intro ys ps r e
    cases r with
    | cons hv r =>
      unfold optAll at e
      split at e
      · rename_i b bs e1 e2
        cases e
        obtain ⟨as, rfl, hp⟩ := ih r e2
        unfold pairII at e1
        split at e1
        · cases e1
          obtain ⟨a, xs, rfl, q, rs⟩ := hv.tup_of
          cases rs with
          | cons h1 rs => cases rs with
            | cons h2 rs =>
              cases rs
              cases h1.int_of
              cases h2.int_of
              exact ⟨a :: as, rfl, .cons q hp⟩
        · cases e1
      · cases e
theorem reps_iis {K : PySem.W.Frag} {ρ : List Addr} {H : Hp} : ∀ {bs : List Addr} {ms : List (Int × Int)}, Paired (fun p (q : Int × Int) => SqT K H p [V.int q.1, V.int q.2]) bs ms → Reps K ρ H (ms.map iiV) (bs.map V.ref)
  | _, _, .nil => .nil
  | _, _, .cons h t => .cons (.tup h (.cons (.int _) (.cons (.int _) .nil))) (reps_iis t)
theorem opBf (hc : X.calm = true) (hu : X.A.units + 65 < cLine) (hxt : Xtra X.base) (f : Bf) (hf : isIs f = false) : CallR X (bfVal f) (LRL X.K (bfW f)) := by
  intro pins s σ H xs us Q I r h
  obtain ⟨vs, μ, ρ, m, rs, h⟩ := h
  cases f with
  | len =>
    simp only [bfW] at h
    split at h
    · obtain ⟨x, rfl, rx⟩ := rs.one
      split at h
      · cases rx.str_of
        exact call_len_str pins s σ H _ us Q I r ⟨_, rfl, h.1, h.2.self m (.int _)⟩
      · split at h
        · rename_i e1
          obtain ⟨p, ys, rfl, r2, q⟩ := seq_of m e1 rx
          rw [r2.length] at h
          exact call_len_seq pins s σ H _ us Q I r ⟨p, ys, rfl, q, h.self m (.int _)⟩
        · split at h
          · obtain ⟨p, rfl, q⟩ := rx.ref_of
            split at h
            · rename_i e2
              obtain ⟨ks, h1, h2⟩ := dct_of m e2 q
              rw [h2.length] at h
              rw [Vals.ref1 r]
              exact d_len I h1 fun t s2 I2 => ⟨.int _, H, I2, ⟨_, rfl⟩, h.self m (.int _)⟩
            · split at h
              · rename_i e2
                obtain ⟨xs, N⟩ := nd_of m e2 q
                rw [Vals.ref1 r]
                exact nd_len I N fun t s2 I2 => ⟨.int _, H, I2, ⟨_, rfl⟩, h.self m (.int _)⟩
              · exact False.elim h
          · exact False.elim h
    · exact False.elim h
  | sum =>
    simp only [bfW] at h
    split at h
    · obtain ⟨x, rfl, rx⟩ := rs.one
      split at h
      · rename_i e1
        split at h
        · rename_i e2
          obtain ⟨p, ys, rfl, r2, q⟩ := seq_of m e1 rx
          have e3 := r2.ints e2
          subst e3
          rcases q with q | q
          · exact cr_sum hc pins s σ H _ us Q I r ⟨p, _, rfl, q, h.self m (.int _)⟩
          · obtain ⟨its, rv, hl, _⟩ := I.tuple q
            rw [Vals.ref1 r]
            exact sum_tup (I.ok.hd hc) hl rv.ints fun h' tk t' hk => ⟨.int _, H, I.kept hk, ⟨_, rfl⟩, h.self m (.int _)⟩
        · exact False.elim h
      · exact False.elim h
    · exact False.elim h
  | min2 =>
    simp only [bfW] at h
    split at h
    · obtain ⟨x, y, rfl, rx, ry⟩ := rs.two
      cases rx.int_of; cases ry.int_of
      refine call_min2 hc pins s σ H _ us Q I r ⟨_, _, rfl, ?_⟩
      have e : ∀ i j : Int, (if j < i then j else i) = min i j := fun i j => by omega
      rw [e]
      exact h.self m (.int _)
    · obtain ⟨x, y, z, rfl, rx, ry, rz⟩ := rs.three
      cases rx.int_of; cases ry.int_of; cases rz.int_of
      exact call_min3 hc pins s σ H _ us Q I r ⟨_, _, _, rfl, h.self m (.int _)⟩
    · exact False.elim h
  | max2 =>
    simp only [bfW] at h
    split at h
    · obtain ⟨x, y, rfl, rx, ry⟩ := rs.two
      cases rx.int_of; cases ry.int_of
      refine call_max2 hc pins s σ H _ us Q I r ⟨_, _, rfl, ?_⟩
      have e : ∀ i j : Int, (if j > i then j else i) = max i j := fun i j => by omega
      rw [e]
      exact h.self m (.int _)
    · obtain ⟨x, y, z, rfl, rx, ry, rz⟩ := rs.three
      cases rx.int_of; cases ry.int_of; cases rz.int_of
      exact call_max3 hc pins s σ H _ us Q I r ⟨_, _, _, rfl, h.self m (.int _)⟩
    · exact False.elim h
  | abs =>
    simp only [bfW] at h
    split at h
    · obtain ⟨x, rfl, rx⟩ := rs.one
      cases rx.int_of
      refine call_abs pins s σ H _ us Q I r ⟨_, rfl, ?_⟩
      have e : ∀ i : Int, (if i < 0 then -i else i) = (i.natAbs : Int) := fun i => by omega
      rw [e]
      exact h.self m (.int _)
    · exact False.elim h
  | int1 =>
    simp only [bfW] at h
    split at h
    · obtain ⟨x, rfl, rx⟩ := rs.one
      cases rx.int_of
      exact call_int1 pins s σ H _ us Q I r (.inl ⟨_, rfl, h.self m (.int _)⟩)
    · rename_i b
      obtain ⟨x, rfl, rx⟩ := rs.one
      cases rx.bool_of
      refine call_int1 pins s σ H _ us Q I r (.inr ⟨_, rfl, ?_⟩)
      cases b <;> exact h.self m (.int _)
    · obtain ⟨x, rfl, rx⟩ := rs.one
      cases rx.str_of
      split at h
      · rename_i e1
        obtain ⟨u, rfl, t, rfl⟩ := vals1 r
        exact call_text43 (hxt.dig.keeps I.bk) e1 h.1 ⟨.int _, H, I.tok _, ⟨_, rfl⟩, h.2.self m (.int _)⟩
      · exact False.elim h
    · exact False.elim h
  | dict1 =>
    simp only [bfW] at h
    split at h
    · obtain ⟨x, rfl, rx⟩ := rs.one
      obtain ⟨p, rfl, q⟩ := rx.ref_of
      split at h
      · rename_i e1
        split at h
        · rename_i e2
          obtain ⟨ys, q2, r2⟩ := lst_of m e1 q
          obtain ⟨ps, ks, rfl, hp, rel⟩ := pairs_rep _ r2 e2
          exact call_dictP hc pins s σ H _ us Q I r ⟨p, ps, ks, rfl, q2, hp, fun a ha => LK.dct h m (rel.merge .nil) ha⟩
        · split at h
          · rename_i e2
            obtain ⟨ys, q2, r2⟩ := lst_of m e1 q
            obtain ⟨ps, ns, rfl, hp, rel⟩ := pairs_repN _ r2 e2
            exact call_dictN hc hu pins s σ H _ us Q I r ⟨p, ps, ρ, _, ns, rfl, q2, hp, rel, fun a ha => LK.ndc h m (rel.mergeX .nil) ha⟩
          · exact False.elim h
      · split at h
        · rename_i e1
          obtain ⟨ks, q2, rel⟩ := dctm_of m e1 q
          exact call_dictD pins s σ H _ us Q I r ⟨p, ks, rfl, .inl q2, fun a ha => LK.dct h m rel ha⟩
        · exact False.elim h
    · exact False.elim h
  | bool1 =>
    simp only [bfW] at h
    split at h
    · obtain ⟨x, rfl, rx⟩ := rs.one
      cases rx.int_of
      obtain ⟨u, rfl, t, rfl⟩ := vals1 r
      refine call_bool_int ?_
      refine ⟨.bl _, H, I, rfl, ?_⟩
      have e : ∀ i : Int, (i != 0) = decide (i ≠ 0) := fun i => by by_cases c : i = 0 <;> simp [c]
      rw [e]
      exact h.self m (.bool _)
    · obtain ⟨x, rfl, rx⟩ := rs.one
      cases rx.bool_of
      obtain ⟨u, rfl, ru⟩ := vals1 r
      obtain rfl : u = Value.bool _ := ru
      refine call_bool_bool ?_
      exact ⟨.bl _, H, I, rfl, h.self m (.bool _)⟩
    · exact False.elim h
  | all1 =>
    simp only [bfW] at h
    split at h
    · obtain ⟨x, rfl, rx⟩ := rs.one
      obtain ⟨p, rfl, q⟩ := rx.ref_of
      split at h
      · rename_i e1
        split at h
        · rename_i e2
          obtain ⟨ys, q2, r2⟩ := lst_of m e1 q
          have e3 := r2.bools e2
          subst e3
          exact cr_all hc pins s σ H _ us Q I r ⟨p, _, rfl, q2, h.self m (.bool _)⟩
        · exact False.elim h
      · exact False.elim h
    · exact False.elim h
  | any1 =>
    simp only [bfW] at h
    split at h
    · obtain ⟨x, rfl, rx⟩ := rs.one
      obtain ⟨p, rfl, q⟩ := rx.ref_of
      split at h
      · rename_i e1
        split at h
        · rename_i e2
          obtain ⟨ys, q2, r2⟩ := lst_of m e1 q
          have e3 := r2.bools e2
          subst e3
          exact cr_any hc pins s σ H _ us Q I r ⟨p, _, rfl, q2, h.self m (.bool _)⟩
        · exact False.elim h
      · exact False.elim h
    · exact False.elim h
  | list1 =>
    simp only [bfW] at h
    split at h
    · obtain ⟨x, rfl, rx⟩ := rs.one
      split at h
      · rename_i e1
        obtain ⟨p, ys, rfl, r2, q⟩ := seq_of m e1 rx
        exact call_list_of pins s σ H _ us Q I r ⟨p, ys, rfl, q, fun l hl => h.lst m r2 hl⟩
      · split at h
        · split at h
          · rename_i e2
            obtain ⟨p, rfl, q⟩ := rx.ref_of
            obtain ⟨ks, q2, rel⟩ := dct_of m e2 q
            rw [Vals.ref1 r]
            exact list_dk hc I q2 fun l hl => h.lst m (drel_keys rel) hl
          · exact False.elim h
        · exact False.elim h
    · exact False.elim h
  | tuple1 =>
    simp only [bfW] at h
    split at h
    · obtain ⟨x, rfl, rx⟩ := rs.one
      split at h
      · rename_i e1
        obtain ⟨p, ys, rfl, r2, q⟩ := seq_of m e1 rx
        refine call_tuple_of pins s σ H _ us Q I r ⟨p, ys, rfl, ?_⟩
        rcases q with q | q
        · exact .inl ⟨q, fun l hl => h.tup m r2 hl⟩
        · exact .inr ⟨q, h.self m (.tup q r2)⟩
      · exact False.elim h
    · exact False.elim h
  | sorted1 =>
    simp only [bfW] at h
    split at h
    · obtain ⟨x, rfl, rx⟩ := rs.one
      obtain ⟨p, rfl, q⟩ := rx.ref_of
      split at h
      · rename_i e1
        split at h
        · rename_i e2
          obtain ⟨ys, q2, r2⟩ := lst_of m e1 q
          have e3 := r2.ints e2
          subst e3
          exact cr_sortedI pins s σ H _ us Q I r ⟨p, _, rfl, q2, fun ms l h1 h2 hl => (h ms h1 h2).lst m (Reps.of_ints ms) hl⟩
        · split at h
          · rename_i e2
            obtain ⟨ys, q2, r2⟩ := lst_of m e1 q
            have e3 := strs_rep r2 e2
            subst e3
            exact cr_sortedS pins s σ H _ us Q I r ⟨p, _, rfl, q2, h.1, fun ms l h1 h2 hl => (h.2 ms h1 h2).lst m (reps_strs _) hl⟩
          obtain ⟨ys, q2, r2⟩ := lst_of m e1 q
          unfold srtW at h
          split at h
          · rename_i e2
            rw [Vals.ref1 r]
            exact srt_list hu I q2 r2 e2 h.1 fun zs l h3 hl => h.2.lst m h3 hl
          · exact False.elim h
      · split at h
        · rename_i e1
          split at h
          · rename_i e2
            obtain ⟨ks, q2, rel⟩ := dctm_of m e1 q
            rw [rel.keys] at e2
            exact cr_sortedDI hc pins s σ H _ us Q I r ⟨p, ks, _, rfl, q2, keys_ints e2, fun ms l h1 h2 hl => (h ms h1 h2).lst m (Reps.of_ints ms) hl⟩
          · exact False.elim h
        · split at h
          · rename_i e3
            obtain ⟨xs, N⟩ := nd_of m e3 q
            unfold srtW at h
            split at h
            · rename_i e2
              rw [Vals.ref1 r]
              exact srt_keys hc hu I N e2 h.1 fun zs l h3 hl => h.2.lst m h3 hl
            · exact False.elim h
          · exact False.elim h
    · obtain ⟨x, rfl, rx⟩ := rs.one
      split at h
      · rename_i e2
        obtain ⟨a, ys, rfl, q2, r2⟩ := rx.tup_of
        obtain ⟨as, rfl, hp⟩ := iis_rep r2 e2
        exact cr_sortedTII hu pins s σ H _ us Q I r ⟨a, as, _, rfl, q2, hp, fun bs ms l h1 h2 h3 hl => (h ms h1 h2).lst m (reps_iis h3) hl⟩
      · exact False.elim h
    · exact False.elim h
  | min1 =>
    simp only [bfW] at h
    split at h
    · obtain ⟨x, rfl, rx⟩ := rs.one
      obtain ⟨p, rfl, q⟩ := rx.ref_of
      split at h
      · rename_i e1
        split at h
        · rename_i e2
          obtain ⟨ys, q2, r2⟩ := lst_of m e1 q
          have e3 := r2.ints e2
          subst e3
          exact cr_min hc pins s σ H _ us Q I r ⟨p, _, rfl, q2, h.1, fun k h1 h2 => (h.2 k h1 h2).self m (.int _)⟩
        · split at h
          · rename_i e2
            obtain ⟨ys, q2, r2⟩ := lst_of m e1 q
            obtain ⟨u, rfl, ru⟩ := vals1 r
            obtain rfl : u = Value.ref p := ru
            exact min_list hc hu I q2 r2 e2 h.1.1 h.1.2 fun k z h1 rz h2 => (h.2 k h1 h2).self m rz
          · exact False.elim h
      · exact False.elim h
    · exact False.elim h
  | max1 =>
    simp only [bfW] at h
    split at h
    · obtain ⟨x, rfl, rx⟩ := rs.one
      obtain ⟨p, rfl, q⟩ := rx.ref_of
      split at h
      · rename_i e1
        split at h
        · rename_i e2
          obtain ⟨ys, q2, r2⟩ := lst_of m e1 q
          have e3 := r2.ints e2
          subst e3
          exact cr_max hc pins s σ H _ us Q I r ⟨p, _, rfl, q2, h.1, fun k h1 h2 => (h.2 k h1 h2).self m (.int _)⟩
        · exact False.elim h
      · exact False.elim h
    · obtain ⟨x, rfl, rx⟩ := rs.one
      obtain ⟨p, ys, rfl, q2, r2⟩ := rx.tup_of
      split at h
      · rename_i e2
        have e3 := r2.ints e2
        subst e3
        exact cr_maxT hc hu pins s σ H _ us Q I r ⟨p, _, rfl, q2, h.1, fun k h1 h2 => (h.2 k h1 h2).self m (.int _)⟩
      · exact False.elim h
    · exact False.elim h
  | _ => cases hf
/-- isinstance(x, T) -/
theorem opIs (f : Bf) (hf : isIs f = true) : CallR X (.builtin "isinstance") (fun xs H Q => ∃ x v μ ρ, xs = [x, .ty (bfName f).2.2] ∧ MemOk X.K ρ H μ ∧ Rep X.K ρ H v x ∧ bfW f μ [v] (LK X.K ρ H Q)) := by
  intro pins s σ H xs us Q I r h
  obtain ⟨x, v, μ, ρ, rfl, m, rx, h⟩ := h
  have h2 : ∃ b, isTy f μ v = some b ∧ LK X.K ρ H Q (.bool b) μ := by
    cases f <;> first
      | (simp only [bfW] at h
         split at h
         · exact ⟨_, by assumption, h⟩
         · exact False.elim h)
      | cases hf
  obtain ⟨b, e, h⟩ := h2
  obtain ⟨t, ty, k⟩ | no := isTy_x m rx
  case inr => rw [no f] at e; cases e
  exact call_isiZ pins s σ H _ us Q I r ⟨x, _, t, _, b, rfl, .ty _, ty, k f b e, h.self m (.bool _)⟩

/-! ### methods -/
def mfName : Mf → Str × String
  | .append => ("append", "list.append")
  | .extend => ("extend", "list.extend")
  | .pop => ("pop", "list.pop")
  | .popAt => ("pop", "list.pop")
  | .insert => ("insert", "list.insert")
  | .count => ("count", "list.count")
  | .index => ("index", "list.index")
def LMt (K : PySem.W.Frag) (f : Mf) : V → List V → Hp → VK → Prop := fun x xs H Q => ∃ v vs μ ρ, MemOk K ρ H μ ∧ Rep K ρ H v x ∧ Reps K ρ H vs xs ∧ mfW f μ v vs (LK K ρ H Q)
theorem idx_data (hu : X.A.units + 65 < cLine) {pins : List (Addr × Obj)} {s : Shared} {σ : L2.St} {a : Addr} {y : V} {v : Value} {us : List Value} {w : Vl} {vs : List Vl} {ys : List V} {p : PyData × List PyData} {Q : VK} (I : Inv X pins σ H s) (rx : RelV (.ref a) v) (rxs : Vals [y] us)
    (m : MemOk X.K ρ H μ) (ry : Rep X.K ρ H w y) (r2 : Reps X.K ρ H vs ys) (q2 : H a = some (.lst ys)) (e : datsOf μ w vs = some p) (hlt : (p.2.findIdx fun e => PyData.eqv e p.1) < vs.length) (q : Q (.int (p.2.findIdx fun e => PyData.eqv e p.1 : Nat)) H) :
    wpAny (model X.prog X.w) X.A (call (.builtin "list.index") (v :: us)) (EP X pins σ Q) X.xe s := by
  obtain ⟨d1, d2, d3, d4, d5⟩ := dats_of m ry r2 e
  cases rx
  cases rxs with
  | cons ru rt =>
    rename_i uy ut
    cases rt
    obtain ⟨its, rv, ⟨⟨cls, dd, data, sl⟩, n, ho, hc, hdn, hd⟩, hlen⟩ := I.list (.inl (.inl q2))
    simp only at hc hd
    subst hc hd
    obtain ⟨as, r1⟩ := Dp.reads I _ y uy d1 ru
    obtain ⟨bs, rr⟩ := Dp.readsAll I _ ys its d2 rv
    have hvl := rv.length
    have hl2 := r2.length
    have em : its.map (SeqAt.readOf s.heap) = p.2 := SeqAt.readsAll_map_plain _ _ _ d5 rr
    have hpl : p.2.length = its.length := by rw [← em, List.length_map]
    have hsl := sizeLine_eq
    have hj : (p.2.findIdx fun e => PyData.eqv e p.1) < its.toArray.size := by rw [List.size_toArray]; omega
    have at' : ∀ (k : Nat) (h : k < its.length), SeqAt.readOf s.heap its[k] = p.2[k]'(by omega) := fun k h => by
      have : (its.map (SeqAt.readOf s.heap))[k]? = p.2[k]? := by rw [em]
      rw [List.getElem?_map, List.getElem?_eq_getElem h, List.getElem?_eq_getElem (by omega)] at this
      exact Option.some.inj this
    refine call_meets PySem.F.slot_list_index ⟨_, ho, rfl⟩ PySem.F.entry_list_index (PySem.F.args_list_index_2 _ _)
      (SeqAt.list_indexAt a its.toArray n dd sl uy (fun u => PyData.eqv (SeqAt.readOf s.heap u) p.1) _ hj (by omega) ?_ ?_) ⟨ho, SeqAt.items_plain (vs := its.toArray) rr r1 d5 d3 (units64 hu d4), ?_⟩
    · have h1 : its.toArray[(p.2.findIdx fun e => PyData.eqv e p.1)] = its[(p.2.findIdx fun e => PyData.eqv e p.1)]'(by omega) := by simp
      rw [h1, at']
      exact List.findIdx_getElem (p := fun e => PyData.eqv e p.1) (xs := p.2) (w := by rw [hpl]; simpa using hj)
    · intro k hk hkj
      have hk2 : k < its.length := by simpa using hk
      have h1 : its.toArray[k] = its[k]'hk2 := by simp
      rw [h1, at' k hk2]
      simpa using List.not_of_lt_findIdx hkj
    · exact ⟨.int _, H, I.tok _, ⟨_, rfl⟩, q⟩
theorem opMf (hu : X.A.units + 65 < cLine) (f : Mf) : MtR X (mfName f).2 (LMt X.K f) := by
  intro pins s σ H x xs v us Q I rx rxs h
  obtain ⟨o, vs, μ, ρ, m, ro, rs, h⟩ := h
  unfold mfW at h
  split at h
  · obtain ⟨p, rfl, q⟩ := ro.ref_of
    split at h
    · rename_i e1
      obtain ⟨ys, q2, r2⟩ := mut_of m e1 q
      cases f with
      | append =>
        simp only at h
        split at h
        · obtain ⟨y, rfl, ry⟩ := rs.one
          refine mt_append pins s σ H _ _ v us Q I rx rxs ⟨p, ys, y, rfl, rfl, q2, by rw [← r2.length]; exact h.1, ?_⟩
          exact h.2.put m e1 q (r2.append (.cons ry .nil)) .none
        · exact False.elim h
      | extend =>
        simp only at h
        split at h
        · obtain ⟨y, rfl, ry⟩ := rs.one
          obtain ⟨p2, rfl, q3⟩ := ry.ref_of
          split at h
          · rename_i e2
            obtain ⟨zs, q4, r4⟩ := mut_of m e2 q3
            refine mt_extend pins s σ H _ _ v us Q I rx rxs ⟨p, p2, ys, zs, rfl, rfl, q2, q4, by rw [← r2.length, ← r4.length]; exact h.1, ?_⟩
            exact h.2.put m e1 q (r2.append r4) .none
          · exact False.elim h
        · exact False.elim h
      | pop =>
        simp only at h
        split at h
        · cases rs
          split at h
          · rename_i e2
            rw [r2.length] at e2
            obtain ⟨z, e3, rz⟩ := r2.get e2
            refine mt_pop pins s σ H _ _ v us Q I rx rxs ⟨p, ys, z, rfl, rfl, q2, e3, ?_⟩
            exact h.put m e1 q r2.dropLast rz
          · exact False.elim h
        · exact False.elim h
      | popAt =>
        simp only at h
        split at h
        · obtain ⟨y, rfl, ry⟩ := rs.one
          cases ry.int_of
          split at h
          · rename_i e2
            split at h
            · rename_i e3
              rw [r2.length] at e2
              obtain ⟨z, e4, rz⟩ := r2.get e3
              obtain ⟨h1, _⟩ := ixN_seq e2
              refine mt_popAt pins s σ H _ _ v us Q I rx rxs ⟨p, ys, _, _, z, rfl, rfl, q2, h.1.1, h.1.2, h1, e4, ?_⟩
              exact h.2.put m e1 q (r2.eraseIdx _) rz
            · exact False.elim h
          · exact False.elim h
        · exact False.elim h
      | insert =>
        simp only at h
        split at h
        · obtain ⟨y, z, rfl, ry, rz⟩ := rs.two
          cases ry.int_of
          refine mt_insert pins s σ H _ _ v us Q I rx rxs ⟨p, ys, _, z, rfl, rfl, q2, by rw [← r2.length]; exact h.1.1, h.1.2.1, h.1.2.2, ?_⟩
          exact h.2.put m e1 q (((r2.take _).append (.cons rz .nil)).append (r2.drop _)) .none
        · exact False.elim h
      | count =>
        simp only at h
        split at h
        · obtain ⟨y, rfl, ry⟩ := rs.one
          cases ry.int_of
          split at h
          · rename_i e2
            have e3 := r2.ints e2
            subst e3
            exact mt_lcount pins s σ H _ _ v us Q I rx rxs ⟨p, _, _, rfl, rfl, .inl (.inl q2), h.self m (.int _)⟩
          · exact False.elim h
        · exact False.elim h
      | index =>
        simp only at h
        split at h
        · obtain ⟨y, rfl, ry⟩ := rs.one
          split at h
          · split at h
            · rename_i e
              exact idx_data hu I rx rxs m ry r2 q2 e h.1 (h.2.self m (.int _))
            · exact False.elim h
          obtain ⟨⟨hf, hlt⟩, h⟩ := h
          rw [Bool.and_eq_true] at hf
          rename_i vs0 _ _ w _
          have fl := flat_V ry hf.1
          have hg := List.findIdx_getElem (w := hlt)
          obtain ⟨z, e3, rz⟩ := r2.get (List.getElem?_eq_getElem hlt)
          refine mt_index pins s σ H _ _ v us Q I rx rxs ⟨p, ys, y, _, z, rfl, rfl, .inl (.inl q2), fl, flats_V r2 hf.2, e3, ?_, fun k z' hk e4 => ?_, h.self m (.int _)⟩
          · rw [← eqF_V rz ry (List.all_eq_true.mp hf.2 _ (List.getElem_mem hlt)) hf.1]
            exact hg
          · obtain ⟨u, e5, ru⟩ := r2.getV e4
            obtain ⟨hk2, e6⟩ := List.getElem?_eq_some_iff.mp e5
            have := List.not_of_lt_findIdx hk
            rw [e6] at this
            rw [← eqF_V ru ry (List.all_eq_true.mp hf.2 _ (e6 ▸ List.getElem_mem hk2)) hf.1]
            simpa using this
        · exact False.elim h
    · exact False.elim h
  · exact False.elim h
/-! methods of dicts -/
def dmName : Dm → Str × String
  | .get2 => ("get", "dict.get")
  | .upd => ("update", "dict.update")
def LDm (K : PySem.W.Frag) (f : Dm) : V → List V → Hp → VK → Prop := fun x xs H Q => ∃ v vs μ ρ, MemOk K ρ H μ ∧ Rep K ρ H v x ∧ Reps K ρ H vs xs ∧ dmW f μ v vs (LK K ρ H Q)
theorem opDm (hu : X.A.units + 65 < cLine) (f : Dm) : MtR X (dmName f).2 (LDm X.K f) := by
  intro pins s σ H x xs v us Q I rx rxs h
  obtain ⟨o, vs, μ, ρ, m, ro, rs, h⟩ := h
  cases f with
  | get2 =>
    simp only [dmW] at h
    split at h
    · obtain ⟨y, z, rfl, ry, rz⟩ := rs.two
      split at h
      · obtain ⟨r, p, kvs, ks, k, d, _, _, _, rfl, rfl, N, nk, rk, h⟩ := dn_of m ro ry h
        obtain rfl : v = Value.ref p := rx
        obtain ⟨u1, u2, rfl, r1, r2⟩ := vals2 rxs
        obtain rfl : u1 = Value.ref d := r1
        refine nd_get2 hu I N nk rk r2 (fun e s2 I2 => ⟨_, H, I2, r2, ?_⟩) fun w y2 u s2 e ry2 ru I2 => ⟨_, H, I2, ru, ?_⟩
        · rw [e] at h
          exact h.self m rz
        · rw [e] at h
          exact h.self m ry2
      obtain ⟨r, p, kvs, ks, k, _, _, _, rfl, rfl, hp, rel, h⟩ := dk_of m ro ry h
      obtain rfl : v = Value.ref p := rx
      obtain ⟨u1, u2, rfl, r1, r2⟩ := vals2 rxs
      refine d_get2 (o := valV ks k) (by omega) I (dgetR hp) r1 r2 fun w' s2 I2 rw' => ⟨_, H, I2, rw', ?_⟩
      rcases rel.get k with ⟨e1, e2⟩ | ⟨w, z2, e1, e2, rz2⟩
      · rw [e1] at h
        rw [e2]
        exact h.self m rz
      · rw [e1] at h
        rw [e2]
        exact h.self m rz2
    · exact False.elim h
  | upd =>
    simp only [dmW] at h
    split at h
    · obtain ⟨p, rfl, q⟩ := ro.ref_of
      obtain ⟨y, rfl, ry⟩ := rs.one
      obtain ⟨p2, rfl, q2⟩ := ry.ref_of
      split at h
      · rename_i e1 e2
        obtain ⟨ks, h1, rel⟩ := dctm_of m e1 q
        obtain ⟨ms, h2, rel2⟩ := dctm_of m e2 q2
        obtain ⟨⟨ne, hz⟩, h⟩ := h
        obtain rfl : v = Value.ref p := rx
        obtain ⟨u1, rfl, r1⟩ := vals1 rxs
        obtain rfl : u1 = Value.ref p2 := r1
        have hne : p ≠ p2 := fun z => ne (m.nd _ _ p _ _ q (z ▸ q2) (dctm_at e1) (dctm_at e2) rfl rfl)
        obtain ⟨z1, hd1, vs1, kv1, dd1⟩ := L2.dk_of I.hok h1
        obtain ⟨z2, hd2, vs2, kv2, dd2⟩ := L2.dk_of I.hok h2
        have hsz : vs1.length + vs2.length ≤ sizeLine := by rw [← kv1.length, ← kv2.length, ← rel.length, ← rel2.length]; exact hz
        refine call_meetsIn PySem.F.slot_dict_update dd1.typeIs PySem.F.entry_dict_update (PySem.F.args_dict_update_2 _ _) (meets_dict_update (mixKind X.prog X.w) p p2 hne hd2) ⟨vs1, vs2, dd1, dd2, hsz, fun h' dd' _ hs => ?_⟩
        have he : ∃ q, h'.get? p = some q := let ⟨q, _, _, hq, _⟩ := dd'; ⟨q, hq⟩
        have hl : (mergeK ks ms).length ≤ sizeLine := by
          have := length_mergeK ms ks
          rw [← rel.length, ← rel2.length] at this
          omega
        exact ⟨.non, _, d_write (t' := s.toks) I (by rw [h1]; exact True.intro) hs he (dk_new hl hd1 (kv2.merge kv1) dd'), rfl, h.dput m e1 q (rel2.merge rel) .none⟩
      · exact False.elim h
    · exact False.elim h
/-! o[i] op= e -/
def LGt (K : PySem.W.Frag) : V → V → Hp → VK → Prop := fun x y H Q => ∃ v u μ ρ, MemOk K ρ H μ ∧ Rep K ρ H v x ∧ Rep K ρ H u y ∧ getW μ v u fun w => ∀ z, Rep K ρ H w z → Q z H
theorem get_dct (hu : X.A.units + 65 < cLine) {pins : List (Addr × Obj)} {s : Shared} {σ : L2.St} {H : Hp} {x y : V} {ov iv : Value} {Q : VK} (I : Inv X pins σ H s) (rx : RelV x ov) (ry : RelV y iv) {μ : Mem} {ρ : List Addr} {u : Vl} {r : Nat}
    (m : MemOk X.K ρ H μ) (ra : Rep X.K ρ H (.ref r) x) (rb : Rep X.K ρ H u y) (h : dgtW μ r u fun w => ∀ z, Rep X.K ρ H w z → Q z H) : wpAny (model X.prog X.w) X.A (getItem ov iv) (EP X pins σ Q) X.xe s := by
  obtain ⟨r, p, kvs, ks, k, _, _, _, rfl, rfl, hp, rel, h⟩ := dk_of m ra rb h
  obtain rfl : ov = Value.ref p := rx
  rcases rel.get k with ⟨e1, e2⟩ | ⟨w, z, e1, e2, rz⟩
  · simp only [e1] at h
  · simp only [e1] at h
    exact d_getItem (by omega) I (.inl ⟨ks, k, hp, rfl, e2.symm⟩) ry fun w' s2 I2 rw' => ⟨z, H, I2, rw', h z rz⟩
theorem opGet (hu : X.A.units + 65 < cLine) : PGet X (LGt X.K) := by
  intro pins s σ H x y ov iv Q I rx ry h
  obtain ⟨v, u, μ, ρ, m, ra, rb, h⟩ := h
  unfold getW at h
  split at h
  · have ra0 := ra
    obtain ⟨p, rfl, q⟩ := ra.ref_of
    split at h
    · have rb0 := rb
      cases rb.int_of
      split at h
      · rename_i e1
        obtain ⟨xs, q2, rs⟩ := mut_of m e1 q
        split at h
        · rename_i ii _ _ _ _ e2
          have e3 : ∃ z, atI xs ii = some z ∧ Q z H := by
            unfold atI at e2 ⊢
            rw [← rs.length]
            revert e2
            cases ixN _ _ with
            | none => intro e2; cases e2
            | some j =>
              intro e2
              obtain ⟨z, a, b⟩ := rs.get e2
              exact ⟨z, a, h z b⟩
          obtain ⟨z, e3, rz⟩ := e3
          cases rx
          obtain ⟨t, rfl⟩ := ry
          obtain ⟨its, r, pl, hz⟩ := I.list (.inl (.inl q2))
          obtain ⟨j, h1, h2, h3, h4, h5⟩ := atI_get e3
          obtain ⟨w, ew, rw'⟩ := r.get h2
          have hl := r.length
          have hn := line63
          have fin : EP X pins σ Q w s := ⟨z, H, I, rw', rz⟩
          by_cases h0 : 0 ≤ ii
          · have hj : ii.toNat = j := by
              rw [seqIndex_of h0 h5] at h1
              exact Option.some.inj h1
            exact wpAny_getItem_list pl.isList h0 (by omega) (by rw [hj]; simpa using ew) fin
          · have hj : (ii + (its.toArray.size : Int)).toNat = j := by
              rw [seqIndex_neg (by omega) h4] at h1
              rw [List.size_toArray, ← hl]
              exact Option.some.inj h1
            exact wpAny_getItem_list_neg pl.isList (by omega) (by rw [List.size_toArray] <;> omega) (by omega) (by rw [hj]; simpa using ew) fin
        · exact False.elim h
      · exact get_dct hu I rx ry m (by assumption) (by assumption) h
    · exact get_dct hu I rx ry m (by assumption) (by assumption) h
    · obtain ⟨r, p, kvs, xs, k, d, _, _, _, e7, e8, N, nk, rk, h⟩ := dn_of m ra0 rb h
      subst e8
      cases e7
      obtain rfl : ov = Value.ref p := rx
      obtain rfl : iv = Value.ref d := ry
      split at h
      · rename_i w e
        exact nd_getItem hu I N nk rk e fun z w' s2 rz rw' I2 => ⟨z, H, I2, rw', h z rz⟩
      · exact False.elim h
    · exact False.elim h
  · exact False.elim h
/-- the number behind op= -/
def LIp (K : PySem.W.Frag) (op : Operator) : TIp := fun x y H Q => ∃ v u ρ, Rep K ρ H v x ∧ Rep K ρ H u y ∧ augW op v u fun w => ∀ z, Rep K ρ H w z → Q z H
def augB (op : Operator) : Bool := decide (op = Operator.Add) || decide (op = Operator.Sub)
theorem opAug {op : Operator} (ho : augB op = true) : PIp X op (LIp X.K op) := by
  intro pins s σ H x y v u Q I rx ry h
  obtain ⟨a, b, ρ, ra, rb, h⟩ := h
  unfold augW at h
  split at h
  · cases ra; cases rb
    exact ip_add pins s σ H _ _ v u Q I rx ry ⟨_, _, rfl, rfl, h _ (.int _)⟩
  · cases ra; cases rb
    exact ip_sub pins s σ H _ _ v u Q I rx ry ⟨_, _, rfl, rfl, h _ (.int _)⟩
  · exact False.elim h
end
end PV

/-! the look: this syntax is this term of the small language -/
namespace PV
open PySem PySem.Spec PyProof.Rows L2

/-- what is known of the text: a def's slots; the defs with what their last parameters are when left out; the module's constants; the built-ins -/
structure Cfg where
  N : List Str
  F : List (Str × List Str × List Vl)
  G : List (Str × Vl)
  B : List Str
  M : List (Str × Str × Str × List Str × List Vl)
  Cl : List Str
  At : List (Str × Str)
  T : List (Str × List (Str × Int))
  me : Option Str

/-- the free name that marks a def which makes a lambda -/
def lamN (f : Str) : Str := f ++ ".<locals>"
def scopeB (N ps : List Str) (sc : Scope) : Bool :=
  decide (sc.kind = .function) && !sc.isCoroutine && !sc.isGenerator && decide N.Nodup && decide (N.take ps.length = ps) &&
    ps.all (fun x => decide (sc.names.lookup x = some .local) || decide (sc.names.lookup x = some .cell)) && sc.names.all (fun y => !decide (y.2 = .free))
theorem scope_of {N ps : List Str} {sc : Scope} (h : scopeB N ps sc = true) : FnScope N ps sc := by
  unfold scopeB at h
  simp only [Bool.and_eq_true, decide_eq_true_eq, Bool.not_eq_true', List.all_eq_true, Bool.or_eq_true, decide_eq_false_iff_not] at h
  obtain ⟨⟨⟨⟨⟨⟨h1, h2⟩, h3⟩, h4⟩, h5⟩, h6⟩, h7⟩ := h
  exact ⟨h1, h2, h3, h4, h5, h6, h7⟩

def nameOk (n : Str) : Bool := !(n == ("__debug__" : Str)) && !(n == ("__classdict__" : Str)) && !decide (n = "__name__")
def visB (sc : Scope) (n : Str) : Bool :=
  match sc.names.lookup n with
  | some .local => true
  | some .cell => true
  | some .free => true
  | _ => false
def glB (sc : Scope) (n : Str) : Bool :=
  match sc.names.lookup n with
  | some .globalImplicit => true
  | _ => false
def locB (sc : Scope) (fb : Str → Bool) (n : Str) : Bool :=
  match sc.names.lookup n with
  | some .local => true
  | some .cell => fb n
  | _ => false
def isLoc (sc : Scope) (n : Str) : Bool :=
  match sc.names.lookup n with
  | some .local => true
  | _ => false
def cstB : Vl → Const → Bool
  | .none, .none => true
  | .bool a, .bool b => decide (a = b)
  | .int a, .int b => decide (a = b)
  | .str a, .str b => decide (a = b)
  | _, _ => false
def notStar : Expr → Bool
  | .Starred _ _ => false
  | _ => true
def notSet : Expr → Bool
  | .Set _ _ _ => false
  | _ => true
def notSlice : Expr → Bool
  | .Slice _ _ _ _ => false
  | _ => true
def notIte : Expr → Bool
  | .IfExp _ _ _ _ => false
  | _ => true
def isTup : Expr → Bool
  | .Tuple _ _ _ => true
  | _ => false
def isLc : Expr → Bool
  | .ListComp _ _ _ _ => true
  | .SetComp _ _ _ _ => true
  | .DictComp _ _ _ _ _ => true
  | _ => false
/-- no call without arguments stands ahead of a dot -/
def noCall0 : Expr → Bool
  | .Call (.Name _ _) [] [] _ => false
  | _ => true
def scalB : Vl → Vl → Bool
  | .none, .none => true
  | .bool a, .bool b => decide (a = b)
  | .int a, .int b => decide (a = b)
  | _, _ => false
/-- the rest of the arguments: what stands for those left out -/
def dflB : Es → List Vl → Bool
  | .nil, [] => true
  | .cons (.cst v) es, d :: ds => scalB v d && dflB es ds
  | _, _ => false
def cstsOf : Es → List Vl
  | .cons (.cst v) es => v :: cstsOf es
  | _ => []
def isNop : IE → Bool
  | .nop => true
  | _ => false

mutual
def chkTg (N : List Str) (lc : Str → Bool) : Tg → Expr → Bool
  | .nm i, x => match x with
    | .Name n _ => decide (N[i]? = some n) && lc n
    | _ => false
  | .tp ts, x => match x with
    | .Tuple es _ _ => chkTgs N lc ts es
    | _ => false
def chkTgs (N : List Str) (lc : Str → Bool) : Tgs → List Expr → Bool
  | .nil, es => match es with
    | [] => true
    | _ => false
  | .cons t ts, es => match es with
    | e :: r => notStar e && chkTg N lc t e && chkTgs N lc ts r
    | _ => false
end
mutual
def tgIn (own : List Nat) : Tg → Bool
  | .nm i => decide (i ∈ own)
  | .tp ts => tgsIn own ts
def tgsIn (own : List Nat) : Tgs → Bool
  | .nil => true
  | .cons t ts => tgIn own t && tgsIn own ts
end

def compFb (scope : Scope) (n : Str) : Bool := scope.names.lookup n == some .cell

/-- a form of one part: the part -/
def freeB (B : List Str) (sc : Scope) (n w : Str) : Bool := decide (n = w) && glB sc n && decide (n ∈ B)
/-- lambda x: x[j] -/
def lamB (ps : Arguments) (body : Expr) (sc : Scope) (j : Nat) : Bool :=
  match ps, body with
  | ⟨[], [⟨y, _, _⟩], none, [], [], none, []⟩, .Subscript (.Name x _) (.Constant (.int i) _ _) _ =>
    decide (y = x) && (decide (i = (j : Int)) && (decide (sc.names = [(x, .local)]) && (scopeB [x] [x] sc && (!(x == ("__debug__" : Str)) && !(x == ("__classdict__" : Str))))))
  | _, _ => false
def x1A (B : List Str) (T : List (Str × List (Str × Int))) (me : Option Str) (f : X1) (sc : Scope) (x : Expr) : Option Expr :=
  match f with
  | .lrng => match x with
    | .Call (.Name n _) [.Call (.Name m _) [y] [] _] [] _ => if freeB B sc n "list" && freeB B sc m "range" && notStar y then some y else none
    | _ => none
  | .repr => match x with
    | .Call (.Name n _) [y] [] _ => if freeB B sc n "repr" && notStar y then some y else none
    | _ => none
  | .strI => match x with
    | .Call (.Name n _) [y] [] _ => if freeB B sc n "str" && notStar y then some y else none
    | _ => none
  | .isTL => match x with
    | .Call (.Name n _) [y, .Tuple [.Name t _, .Name l _] _ _] [] _ => if freeB B sc n "isinstance" && freeB B sc t "tuple" && freeB B sc l "list" && notStar y then some y else none
    | _ => none
  | .rev => match x with
    | .Subscript y (.Slice none none (some (.UnaryOp .USub (.Constant (.int 1) _ _) _)) _) _ => some y
    | _ => none
  | .minD d => match x with
    | .Call (.Name n _) [y] [⟨some k, .Constant c _ _, _⟩] _ => if freeB B sc n "min" && notStar y && decide (k = "default") && cstB (dfV d) c then some y else none
    | _ => none
  | .maxD d => match x with
    | .Call (.Name n _) [y] [⟨some k, .Constant c _ _, _⟩] _ => if freeB B sc n "max" && notStar y && decide (k = "default") && cstB (dfV d) c then some y else none
    | _ => none
  | .srtSet => match x with
    | .Call (.Name n _) [.Call (.Name m _) [y] [] _] [] _ => if freeB B sc n "sorted" && freeB B sc m "set" && notStar y then some y else none
    | _ => none
  | .srtItems => match x with
    | .Call (.Name n _) [.Call (.Attribute y m ap) [] [] cp] [] _ => if freeB B sc n "sorted" && decide (m = "items") && noCall0 y && (ap.endLine == cp.line) then some y else none
    | _ => none
  | .kin n t => match x with
    | .Compare y [.In] [.Name m _] _ => if decide (n = m) && glB sc m && nameOk m && decide (T.lookup m = some t) then some y else none
    | _ => none
  | .kix n t => match x with
    | .Subscript (.Name m _) y _ => if decide (n = m) && glB sc m && nameOk m && notSlice y && decide (T.lookup m = some t) then some y else none
    | _ => none
  | .minK _ d j => match x with
    | .Call (.Name n _) [y] [⟨some k, .Lambda ps b s _, _⟩] _ => if freeB B sc n "min" && notStar y && decide (k = "key") && decide (me = some d) && lamB ps b s j then some y else none
    | _ => none
  | .maxK _ d j => match x with
    | .Call (.Name n _) [y] [⟨some k, .Lambda ps b s _, _⟩] _ => if freeB B sc n "max" && notStar y && decide (k = "key") && decide (me = some d) && lamB ps b s j then some y else none
    | _ => none
  | .trev => match x with
    | .Call (.Name n _) [.Call (.Name m _) [y] [] _] [] _ => if freeB B sc n "tuple" && freeB B sc m "reversed" && notStar y then some y else none
    | _ => none
  | .lvals => match x with
    | .Call (.Name n _) [.Call (.Attribute y m ap) [] [] cp] [] _ => if freeB B sc n "list" && decide (m = "values") && noCall0 y && (ap.endLine == cp.line) then some y else none
    | _ => none
  | .litems => match x with
    | .Call (.Name n _) [.Call (.Attribute y m ap) [] [] cp] [] _ => if freeB B sc n "list" && decide (m = "items") && noCall0 y && (ap.endLine == cp.line) then some y else none
    | _ => none
def smName : Sm → Str
  | .join => "join"
  | .split => "split"
  | .partition => "partition"
  | .strip => "strip"
  | .upper => "upper"
  | .startswith => "startswith"
  | .replace => "replace"
def smNo : Sm → Nat
  | .upper => 0
  | .replace => 2
  | _ => 1
section
variable (C : Cfg)
def bfB (f : Bf) (sc : Scope) (n : Str) : Bool := decide (n = (bfName f).1) && glB sc n && decide (n ∈ C.B)
mutual
def chkE : IE → Scope → Expr → Bool
  | .nop, _, _ => false
  | .var i, sc, x => match x with
    | .Name n _ => decide (C.N[i]? = some n) && visB sc n && nameOk n
    | _ => false
  | .glb g, sc, x => match x with
    | .Name n _ => decide (n = g) && glB sc n && nameOk n
    | _ => false
  | .cst v, _, x => match x with
    | .Constant c _ _ => cstB v c
    | _ => false
  | .bin op a b, sc, x => match x with
    | .BinOp l o r _ => decide (o = op) && chkE a sc l && chkE b sc r
    | _ => false
  | .neg a, sc, x => match x with
    | .UnaryOp o l _ => decide (o = UnaryOp.USub) && chkE a sc l
    | _ => false
  | .cmp op a b, sc, x => match x with
    | .Compare l [o] [r] _ => decide (o = op) && chkE a sc l && chkE b sc r && notSet r
    | _ => false
  | .chn op op2 a b c, sc, x => match x with
    | .Compare l [o, o2] [r, r2] _ => decide (o = op) && decide (o2 = op2) && chkE a sc l && chkE b sc r && chkE c sc r2 && notSet r2
    | _ => false
  | .and a b, sc, x => match x with
    | .BoolOp o (l :: r :: rest) p => decide (o = BoolOp.And) && chkE a sc l && (match rest with
      | [] => chkE b sc r && notIte r
      | y :: z => chkE b sc (.BoolOp .And (r :: y :: z) p)) && notIte l
    | _ => false
  | .or a b, sc, x => match x with
    | .BoolOp o (l :: r :: rest) p => decide (o = BoolOp.Or) && chkE a sc l && (match rest with
      | [] => chkE b sc r && notIte r
      | y :: z => chkE b sc (.BoolOp .Or (r :: y :: z) p)) && notIte l
    | _ => false
  | .not a, sc, x => match x with
    | .UnaryOp o l _ => decide (o = UnaryOp.Not) && chkE a sc l && notIte l
    | _ => false
  | .ite c a b, sc, x => match x with
    | .IfExp t l r _ => chkE c sc t && notIte t && chkE a sc l && chkE b sc r
    | _ => false
  | .tup es, sc, x => match x with
    | .Tuple xs _ _ => chkEs es sc xs
    | _ => false
  | .lst es, sc, x => match x with
    | .List xs _ => chkEs es sc xs
    | _ => false
  | .idx a i, sc, x => match x with
    | .Subscript l r _ => chkE a sc l && chkE i sc r && notSlice r
    | _ => false
  | .slc a lo hi, sc, x => match x with
    | .Subscript l (.Slice u v st _) _ => chkE a sc l && chkO lo sc u && chkO hi sc v && st.isNone
    | _ => false
  | .call f es, sc, x => match x with
    | .Call (.Name n _) xs [] _ => decide (n = f) && glB sc n && nameOk n && (match C.F.lookup f with
      | some (ps, ds) => chkCs es sc xs (ds.drop (ds.length - (ps.length - xs.length))) && decide (xs.length + (ds.drop (ds.length - (ps.length - xs.length))).length = ps.length)
      | .none => false)
    | _ => false
  | .blt f es, sc, x => match x with
    | .Call (.Name n _) xs [] _ => bfB C f sc n && (match xs with
      | y :: ys => if isIs f then (match es, ys with
          | .cons e .nil, [.Name t _] => chkE e sc y && notStar y && decide (t = Str.ofString (bfName f).2.2) && glB sc t && decide (t ∈ C.B)
          | _, _ => false)
        else chkEs es sc (y :: ys)
      | [] => false)
    | _ => false
  | .mth f a es, sc, x => match x with
    | .Call (.Attribute o n ap) xs [] cp => decide (n = (mfName f).1) && noCall0 o && chkE a sc o && chkEs es sc xs && (ap.endLine == cp.line) && decide (xs.length < 20)
    | _ => false
  | .lc own elt tg it c, sc, x => match x with
    | .ListComp e [⟨t, i, ifs, as⟩] scope _ => decide (as = 0) && chkI it sc i t && blkC C.N sc scope own && chkTg C.N (locB (relS scope sc) (compFb scope)) tg t && tgIn (own.map (·.2)) tg && chkE elt (relS scope sc) e &&
        (match ifs with
        | [] => isNop c
        | [q] => chkE c (relS scope sc) q && notIte q
        | _ => false)
    | _ => false
  | .x1 f a, sc, x => match x1A C.B C.T C.me f sc x with
    | some y => chkE a sc y
    | .none => false
  | .dnew, _, x => match x with
    | .Dict [] [] _ => true
    | _ => false
  | .dsp ds, sc, x => match x with
    | .Dict (k :: ks) vs _ => chkDs ds sc (k :: ks) vs && decide ((k :: ks).length ≤ 15)
    | _ => false
  | .dm f a es, sc, x => match x with
    | .Call (.Attribute o n ap) (y :: ys) [] cp => decide (n = (dmName f).1) && noCall0 o && chkE a sc o && chkEs es sc (y :: ys) && (ap.endLine == cp.line) && decide ((y :: ys).length < 20)
    | _ => false
  | .ch3 op op2 op3 a b c d, sc, x => match x with
    | .Compare l [o, o2, o3] [r, r2, r3] _ => decide (o = op) && decide (o2 = op2) && decide (o3 = op3) && chkE a sc l && chkE b sc r && chkE c sc r2 && chkE d sc r3 && notSet r3
    | _ => false
  | .dsp1 a b, sc, x => match x with
    | .Dict [some k] [v] _ => chkE a sc k && chkE b sc v
    | _ => false
  | .lr2 a b, sc, x => match x with
    | .Call (.Name n _) [.Call (.Name m _) [y, z] [] _] [] _ => freeB C.B sc n "list" && freeB C.B sc m "range" && notStar y && notStar z && chkE a sc y && chkE b sc z
    | _ => false
  | .sm f a es, sc, x => match x with
    | .Call (.Attribute o n ap) xs [] cp => decide (n = smName f) && noCall0 o && chkE a sc o && chkEs es sc xs && (ap.endLine == cp.line) && decide (xs.length = smNo f) && decide (xs.length ≤ 1)
    | _ => false
  | .fst es, sc, x => match x with
    | .JoinedStr xs _ => chkFs es sc xs && (match xs with
      | [] => false
      | [.FormattedValue _ _ _ _] => true
      | [_] => false
      | _ => true)
    | _ => false
  | .fld c a f, sc, x => match x with
    | .Attribute o n _ => decide (n = f) && noCall0 o && chkE a sc o && decide ((c, f) ∈ C.At)
    | _ => false
  | .mcl c a m es, sc, x => match x with
    | .Call (.Attribute o n ap) xs [] cp => decide (n = m) && noCall0 o && chkE a sc o && (ap.endLine == cp.line) && (match C.M.lookup (mName c m) with
      | some (c2, m2, ps, ds) => decide (c2 = c) && decide (m2 = m) && chkCs es sc xs [] && decide (xs.length + 1 = ps.length) && ds.isEmpty && decide (xs.length < 20)
      | .none => false)
    | _ => false
  | .new c es, sc, x => match x with
    | .Call (.Name n _) xs [] _ => decide (n = c) && glB sc n && nameOk n && decide (c ∈ C.Cl) && (match C.M.lookup (mName c "__init__") with
      | some (c2, m2, ps, ds) => decide (c2 = c) && decide (m2 = "__init__") && chkCs es sc xs [] && decide (xs.length + 1 = ps.length) && ds.isEmpty
      | .none => false)
    | _ => false
def chkFs : Es → Scope → List Expr → Bool
  | .nil, _, xs => match xs with
    | [] => true
    | _ => false
  | .cons e es, sc, xs => match xs with
    | .FormattedValue y c f _ :: ys => decide (c = -1) && f.isNone && chkE e sc y && chkFs es sc ys
    | .Constant c _ _ :: ys => (match e with
      | .cst (.str s) => cstB (.str s) c
      | _ => false) && chkFs es sc ys
    | _ => false
def chkDs : Ds → Scope → List (Option Expr) → List Expr → Bool
  | .nil, _, ks, vs => match ks, vs with
    | [], [] => true
    | _, _ => false
  | .cons k v ds, sc, ks, vs => match ks, vs with
    | some x :: kr, y :: vr => chkE k sc x && chkE v sc y && chkDs ds sc kr vr
    | _, _ => false
def chkO : Op → Scope → Option Expr → Bool
  | .no, _, x => x.isNone
  | .yes e, sc, x => match x with
    | some y => chkE e sc y
    | _ => false
def chkEs : Es → Scope → List Expr → Bool
  | .nil, _, xs => match xs with
    | [] => true
    | _ => false
  | .cons e es, sc, xs => match xs with
    | y :: ys => notStar y && chkE e sc y && chkEs es sc ys
    | _ => false
/-- .. where the last ones may be left out -/
def chkCs : Es → Scope → List Expr → List Vl → Bool
  | .nil, _, xs, ds => match xs with
    | [] => ds.isEmpty
    | _ => false
  | .cons e es, sc, xs, ds => match xs with
    | y :: ys => notStar y && chkE e sc y && chkCs es sc ys ds
    | [] => dflB (.cons e es) ds
def chkI : Itb → Scope → Expr → Expr → Bool
  | .sq e, sc, x, _ => chkE e sc x && notSet x
  | .sgs e, sc, x, _ => chkE e sc x && notSet x
  | .dks e, sc, x, _ => chkE e sc x && notSet x
  | .dit e, sc, x, t => match x with
    | .Call (.Attribute y m ap) [] [] cp => decide (m = "items") && noCall0 y && (ap.endLine == cp.line) && chkE e sc y && isTup t
    | _ => false
  | .rng1 e, sc, x, _ => match x with
    | .Call (.Name n _) [y] [] _ => decide (n = "range") && glB sc n && decide (n ∈ C.B) && notStar y && chkE e sc y
    | _ => false
  | .rng2 a b, sc, x, _ => match x with
    | .Call (.Name n _) [y, z] [] _ => decide (n = "range") && glB sc n && decide (n ∈ C.B) && notStar y && chkE a sc y && notStar z && chkE b sc z
    | _ => false
  | .zip a b, sc, x, t => match x with
    | .Call (.Name n _) [y, z] [] _ => decide (n = "zip") && glB sc n && decide (n ∈ C.B) && notStar y && chkE a sc y && notStar z && chkE b sc z && isTup t
    | _ => false
  | .enm a, sc, x, t => match x with
    | .Call (.Name n _) [y] [] _ => decide (n = "enumerate") && glB sc n && decide (n ∈ C.B) && notStar y && chkE a sc y && isTup t
    | _ => false
  | .rev a, sc, x, _ => match x with
    | .Call (.Name n _) [y] [] _ => decide (n = "reversed") && glB sc n && decide (n ∈ C.B) && notStar y && chkE a sc y
    | _ => false
  | .zip3 a b c, sc, x, t => match x with
    | .Call (.Name n _) [y, z, v] [] _ => decide (n = "zip") && glB sc n && decide (n ∈ C.B) && notStar y && chkE a sc y && notStar z && chkE b sc z && notStar v && chkE c sc v && isTup t
    | _ => false
end

/-- the stores of a = or a tuple's = that are made one by one from the left -/
def noSwap (sc : Scope) (t e : Expr) : Bool :=
  match t, e with
  | .Tuple ts _ _, .Tuple vs _ _ => vs.all notStar && (vs.all (foldedForSure 8) || ts.any fun n => match n with
      | .Name x _ => !isLoc sc x
      | _ => true)
  | .Tuple _ _ _, _ => true
  | _, _ => false
def lineB (p q : Pos) : Bool := p.line == q.line
/-- names, all local, on one line, unlike; the values not all written -/
def parB (N : List Str) (sc : Scope) (is : List Nat) (ts vs : List Expr) : Bool :=
  match is, ts, vs with
  | [i, j], [.Name x p, .Name y q], [a, b] => decide (N[i]? = some x) && decide (N[j]? = some y) && isLoc sc x && isLoc sc y && lineB p q && !decide (x = y) &&
      notStar a && notStar b && !([a, b].all (foldedForSure 8)) && !([a, b].all (constantsAlone 8)) && !decide (i = j)
  | [i, j, k], [.Name x p, .Name y q, .Name z r], [a, b, c] => decide (N[i]? = some x) && decide (N[j]? = some y) && decide (N[k]? = some z) && isLoc sc x && isLoc sc y && isLoc sc z && lineB p q && lineB p r &&
      !decide (x = y) && !decide (x = z) && !decide (y = z) && notStar a && notStar b && notStar c && !([a, b, c].all (foldedForSure 8)) && !([a, b, c].all (constantsAlone 8)) && !decide (i = j) && !decide (i = k) && !decide (j = k)
  | _, _, _ => false

mutual
def chkS : IS → Scope → Stmt → Bool
  | .asg i e, sc, x => match x with
    | .Assign [.Name n p] v sp => decide (C.N[i]? = some n) && locB sc (fun _ => true) n && chkE C e sc v &&
        (match v with
        | .ListComp _ [_] scope q => if isLoc sc n then lineB p q && !(scope.names.any fun (m, k) => m == n && (k == .local || k == .cell)) else true
        | _ => !isLc v)
    | _ => false
  | .asgT ts e, sc, x => match x with
    | .Assign [.Tuple es k p] v sp => chkTgs C.N (locB sc (fun _ => true)) ts es && chkE C e sc v && noSwap sc (.Tuple es k p) v
    | _ => false
  | .par is es, sc, x => match x with
    | .Assign [.Tuple ts _ _] (.Tuple vs _ _) _ => parB C.N sc is ts vs && chkEs C es sc vs
    | _ => false
  | .aug i op e, sc, x => match x with
    | .AugAssign (.Name n _) o v _ => decide (C.N[i]? = some n) && locB sc (fun _ => true) n && decide (o = op) && chkE C e sc v && nameOk n && (decide (op = Operator.Add) || decide (op = Operator.Sub))
    | _ => false
  | .sto o i e, sc, x => match x with
    | .Assign [.Subscript a b _] v _ => chkE C o sc a && chkE C i sc b && notSlice b && chkE C e sc v
    | _ => false
  | .augS o i op e, sc, x => match x with
    | .AugAssign (.Subscript a b _) oo v _ => chkE C o sc a && chkE C i sc b && notSlice b && decide (oo = op) && chkE C e sc v && (decide (op = Operator.Add) || decide (op = Operator.Sub))
    | _ => false
  | .exp e, sc, x => match x with
    | .Expr v _ => chkE C e sc v && !isLc v
    | _ => false
  | .ret e, sc, x => match x with
    | .Return (some v) _ => chkE C e sc v
    | _ => false
  | .retN, _, x => match x with
    | .Return .none _ => true
    | _ => false
  | .ifs c a b, sc, x => match x with
    | .If t u v _ => chkE C c sc t && notIte t && chkB a sc u && chkB b sc v
    | _ => false
  | .whl c b, sc, x => match x with
    | .While t u [] _ => chkE C c sc t && notIte t && chkB b sc u
    | _ => false
  | .fr t it b, sc, x => match x with
    | .For y z u [] _ => chkI C it sc z y && chkTg C.N (locB sc (fun _ => true)) t y && chkB b sc u && notSet z
    | _ => false
  | .pass, _, x => match x with
    | .Pass _ => true
    | _ => false
  | .brk, _, x => match x with
    | .Break _ => true
    | _ => false
  | .cnt, _, x => match x with
    | .Continue _ => true
    | _ => false
  | .sfld c o f e, sc, x => match x with
    | .Assign [.Attribute a n _] v _ => decide (n = f) && noCall0 a && chkE C o sc a && decide ((c, f) ∈ C.At) && chkE C e sc v && !isLc v
    | _ => false
  | .never, _, _ => true
  | .tryN b, sc, x => match x with
    | .Try u (_ :: _) [] [] _ => chkB b sc u
    | _ => false
def chkB : IB → Scope → List Stmt → Bool
  | .nil, _, xs => match xs with
    | [] => true
    | _ => false
  | .cons s b, sc, xs => match xs with
    | y :: ys => chkS s sc y && chkB b sc ys
    | _ => false
end
end
end PV

/-! what is looked at runs as the small language says: expressions -/
namespace PV
open PySem PySem.Spec PyProof.Rows L2

/-- a def's promise by its meaning -/
def spOf (K : PySem.W.Frag) (n : Nat) (t : List Vl → Mem → K1 → Prop) : Sp := fun vs H Q _ => vs.length = n ∧ ∃ args μ ρ, MemOk K ρ H μ ∧ Reps K ρ H args vs ∧ t args μ (LK K ρ H Q)

/-- a table of the top: texts and their numbers -/
structure TabK (K : PySem.W.Frag) (w : World) (d : Addr) (t : List (Str × Int)) : Prop where
  kd : ∃ es n, KDict K w d es n
  rd : ∀ z : Str, ∃ r, PySem.W.nsIn K d z = some r ∧ match t.lookup z with
    | some i => ∃ tk, r = some (.int i tk)
    | none => r = none

/-- where a body stands -/
structure Good (C : Cfg) (Φ : FnT) (sc : Scope) (fb : Str → Bool) (X : Cx) : Prop where
  calm : X.calm = true
  N : X.N = C.N
  nd : X.N.Nodup
  scp : X.env.scope = sc
  kind : sc.kind = .function
  fb : ∀ x, fb x = true → X.fn x = true
  xe : X.xe = fun _ _ => False
  hu : X.A.units + 65 < cLine
  gds : X.A.guards = some []
  xt : Xtra X.base
  gl : ∀ x v, C.G.lookup x = some v → ∃ (u : Value) (y : V), X.mg x = some u ∧ RelV y u ∧ ∀ ρ H, Rep X.K ρ H v y
  bl : ∀ x ∈ C.B, X.mg x = none
  fns : ∀ f ps ds, C.F.lookup f = some (ps, ds) → ∃ (k : Nat) (fa : Addr) (fd : FuncData), Room k X.A ∧ X.mg f = some (.ref fa) ∧ PySem.W.keepIn X.K (.ref fa) = true ∧
    FnG X.prog X.w X.K X.mg X.base k fa fd ps (spOf X.K ps.length (Φ f)) ∧
    ∀ n, ∃ (us : List Value) (dvs : List V), Binds X.K fd ps us ∧ Vals dvs us ∧ ∀ ρ H, Reps X.K ρ H (ds.drop n) dvs
  mts : ∀ c m ps ds, C.M.lookup (mName c m) = some (c, m, ps, ds) → ds = [] → ∃ (k : Nat) (fd : FuncData), Room (k + 1) X.A ∧ Cls X.K (He.ga X.K c) ∧ Meth X.K (He.ga X.K c) m (He.ma X.K (He.ga X.K c) m) ∧
    FnG X.prog X.w X.K X.mg X.base k (He.ma X.K (He.ga X.K c) m) fd ps (spOf X.K ps.length (Φ (mName c m))) ∧ Binds X.K fd ps []
  cls : ∀ c ∈ C.Cl, Mk X.K (He.ga X.K c) (He.ma X.K (He.ga X.K c) "__init__") ∧ X.mg c = some (.ref (He.ga X.K c))
  ats : ∀ p ∈ C.At, Cls X.K (He.ga X.K p.1) ∧ NoAttr X.K (He.ga X.K p.1) p.2
  tbs : ∀ n t, C.T.lookup n = some t → ∃ d, X.mg n = some (.ref d) ∧ TabK X.K X.w d t
  lam : ∀ f, C.me = some f → Room 2 X.A ∧ LamX.TabB X.base X.mg (He.cT X.K (f, none)).1 (He.cT X.K (f, none)).2 ∧ X.env.code = .ref (He.cT X.K (f, none)).1 ∧ X.env.qual ++ "<lambda>" = lamQ f

/-- the slots -/
structure SgOk (K : PySem.W.Frag) (ρ : List Addr) (H : Hp) (σv : Sg) (σ : L2.St) : Prop where
  len : σv.length = σ.length
  at' : ∀ (i : Nat) (v : Vl), getS σv i = some v → ∃ x, σ[i]? = some (some x) ∧ Rep K ρ H v x

section
variable {K : PySem.W.Frag} {ρ ρ2 : List Addr} {H H2 : Hp} {σv : Sg} {σ : L2.St}
theorem SgOk.grow (g : Grow K ρ H ρ2 H2) (h : SgOk K ρ H σv σ) : SgOk K ρ2 H2 σv σ := ⟨h.len, fun i v e => let ⟨x, e1, r⟩ := h.at' i v e; ⟨x, e1, r.grow g⟩⟩
theorem length_setS : ∀ (σ : Sg) (i : Nat) (v : Vl), (setS σ i v).length = σ.length
  | [], _, _ => rfl
  | _ :: _, 0, _ => rfl
  | _ :: r, n + 1, v => by simp [setS, length_setS r n v]
theorem getS_setS : ∀ (σ : Sg) (i j : Nat) (v w : Vl), getS (setS σ i v) j = some w → (j = i ∧ w = v ∧ i < σ.length) ∨ (j ≠ i ∧ getS σ j = some w)
  | [], _, _, _, _, h => by simp [setS, getS] at h
  | _ :: _, 0, 0, v, w, h => by simp [setS, getS] at h; exact .inl ⟨rfl, h.symm, by simp⟩
  | _ :: r, 0, j + 1, v, w, h => .inr ⟨by omega, by simpa [setS, getS] using h⟩
  | _ :: r, n + 1, 0, v, w, h => .inr ⟨by omega, by simpa [setS, getS] using h⟩
  | _ :: r, n + 1, j + 1, v, w, h => by
    simp only [setS, getS] at h
    rcases getS_setS r n j v w h with ⟨e1, e2, e3⟩ | ⟨e1, e2⟩
    · exact .inl ⟨by omega, e2, by simp; omega⟩
    · exact .inr ⟨by omega, by simpa [getS] using e2⟩
theorem SgOk.set (h : SgOk K ρ H σv σ) {i : Nat} {v : Vl} {x : V} (r : Rep K ρ H v x) : SgOk K ρ H (setS σv i v) (σ.set i (some x)) := by
  refine ⟨by rw [length_setS, List.length_set, h.len], fun j w e => ?_⟩
  rcases getS_setS σv i j v w e with ⟨rfl, rfl, hl⟩ | ⟨hne, e⟩
  · exact ⟨x, by rw [List.getElem?_set_self (by rw [← h.len]; exact hl)], r⟩
  · obtain ⟨y, e1, r1⟩ := h.at' j w e
    exact ⟨y, by rw [List.getElem?_set_ne (Ne.symm hne)]; exact e1, r1⟩
theorem length_clrS : ∀ (σ : Sg) (i : Nat), (clrS σ i).length = σ.length
  | [], _ => rfl
  | _ :: _, 0 => rfl
  | _ :: r, n + 1 => by simp [clrS, length_clrS r n]
theorem getS_clrS : ∀ (σ : Sg) (i j : Nat) (w : Vl), getS (clrS σ i) j = some w → j ≠ i ∧ getS σ j = some w
  | [], _, _, _, h => by simp [clrS, getS] at h
  | _ :: _, 0, 0, w, h => by simp [clrS, getS] at h
  | _ :: r, 0, j + 1, w, h => ⟨by omega, by simpa [clrS, getS] using h⟩
  | _ :: r, n + 1, 0, w, h => ⟨by omega, by simpa [clrS, getS] using h⟩
  | _ :: r, n + 1, j + 1, w, h => by
    simp only [clrS, getS] at h
    obtain ⟨e1, e2⟩ := getS_clrS r n j w h
    exact ⟨by omega, by simpa [getS] using e2⟩
theorem SgOk.clrs (h : SgOk K ρ H σv σ) : ∀ is : List Nat, SgOk K ρ H (clrsS σv is) (wipe σ is)
  | [] => h
  | i :: is => by
    have ih := SgOk.clrs h is
    refine ⟨?_, fun j w e => ?_⟩
    · show (clrS (clrsS σv is) i).length = ((wipe σ is).set i none).length
      rw [length_clrS, List.length_set, ih.len]
    · obtain ⟨hne, e⟩ := getS_clrS _ i j w e
      obtain ⟨y, e1, r1⟩ := ih.at' j w e
      refine ⟨y, ?_, r1⟩
      show ((wipe σ is).set i none)[j]? = _
      rw [List.getElem?_set_ne (Ne.symm hne)]
      exact e1
end

/-- the readings -/
def LE (K : PySem.W.Frag) (t : Sg → Mem → K1 → Prop) : TE := fun σ H Q => ∃ σv μ ρ, SgOk K ρ H σv σ ∧ MemOk K ρ H μ ∧ t σv μ (LK K ρ H Q)
def LKB (K : PySem.W.Frag) (ρ : List Addr) (H : Hp) (Q : Bool → Hp → Prop) : KB := fun b μ => ∀ ρ2 H2, Grow K ρ H ρ2 H2 → MemOk K ρ2 H2 μ → Q b H2
def LT (K : PySem.W.Frag) (t : Sg → Mem → K1 → Prop) : TT := fun σ H Q => ∃ σv μ ρ, SgOk K ρ H σv σ ∧ MemOk K ρ H μ ∧ t σv μ (tst (LKB K ρ H Q))
def LKL (K : PySem.W.Frag) (ρ : List Addr) (H : Hp) (Q : List V → Hp → Prop) : KL := fun vs μ => ∀ ρ2 H2 xs, Grow K ρ H ρ2 H2 → MemOk K ρ2 H2 μ → Reps K ρ2 H2 vs xs → Q xs H2
def LA (K : PySem.W.Frag) (t : Sg → Mem → KL → Prop) : TA := fun σ H Q => ∃ σv μ ρ, SgOk K ρ H σv σ ∧ MemOk K ρ H μ ∧ t σv μ (LKL K ρ H Q)
def LKO (K : PySem.W.Frag) (ρ : List Addr) (H : Hp) (Q : Option Int → Hp → Prop) : Option Int → Mem → Prop := fun o μ => ∀ ρ2 H2, Grow K ρ H ρ2 H2 → MemOk K ρ2 H2 μ → Q o H2
def LO (K : PySem.W.Frag) (t : Sg → Mem → (Option Int → Mem → Prop) → Prop) : TO := fun σ H Q => ∃ σv μ ρ, SgOk K ρ H σv σ ∧ MemOk K ρ H μ ∧ t σv μ (LKO K ρ H Q)
/-- what a walked thing keeps -/
structure WkOk (K : PySem.W.Frag) (ρ : List Addr) (H : Hp) (k : Wk) (J : L2.It) : Prop where
  go : ∀ i ρ2 H2 μ2, i < k.items.length → Grow K ρ H ρ2 H2 → MemOk K ρ2 H2 μ2 → gd μ2 k.src → J.go i H2
  stop : ∀ ρ2 H2 μ2, Grow K ρ H ρ2 H2 → MemOk K ρ2 H2 μ2 → gd μ2 k.src → J.stop k.items.length H2
  yld : ∀ i ρ2 H2 μ2 x H3 v, Grow K ρ H ρ2 H2 → MemOk K ρ2 H2 μ2 → gd μ2 k.src → J.yld i H2 x H3 → k.items[i]? = some v → Grow K ρ2 H2 ρ2 H3 ∧ MemOk K ρ2 H3 μ2 ∧ Rep K ρ2 H3 v x
def LKI (K : PySem.W.Frag) (NF : Addr → Prop) (ρ : List Addr) (H : Hp) (R : L2.It → Hp → Prop) : Wk → Mem → Prop := fun k μ => ∀ ρ2 H2 J, Grow K ρ H ρ2 H2 → MemOk K ρ2 H2 μ → WkOk K ρ2 H2 k J → (∀ r, k.lk = some r → ∃ a, ρ2[r]? = some a ∧ NF a ∧ ∀ o u, H a ≠ some (.frz o u)) → R J H2
theorem nolk {P : Nat → Prop} : ∀ r, (none : Option Nat) = some r → P r := fun _ z => by cases z
def LI (K : PySem.W.Frag) (NF : Addr → Prop) (t : Sg → Mem → (Wk → Mem → Prop) → Prop) : TI := fun σ H R => ∃ σv μ ρ, SgOk K ρ H σv σ ∧ MemOk K ρ H μ ∧ t σv μ (LKI K NF ρ H R)

section
variable {X : Cx} {e : Expr}
theorem PE.imp {t u : TE} (h : PE X e t) (k : ∀ σ H Q, u σ H Q → t σ H Q) : PE X e u := ⟨fun pins s σ H Q I q => h.run pins s σ H Q I (k σ H Q q)⟩
theorem PT.imp {t u : TT} (h : PT X e t) (k : ∀ σ H Q, u σ H Q → t σ H Q) : PT X e u := ⟨fun pins s σ H Q I q => h.run pins s σ H Q I (k σ H Q q)⟩
theorem PW.imp {t u : TT} (h : PW X e t) (k : ∀ σ H Q, u σ H Q → t σ H Q) : PW X e u := ⟨fun wh pins s σ H Q I q => h.run wh pins s σ H Q I (k σ H Q q)⟩
theorem PA.imp {es : List Expr} {t u : TA} (h : PA X es t) (k : ∀ σ H Q, u σ H Q → t σ H Q) : PA X es u := ⟨fun p pins s σ H Q I q => h.run p pins s σ H Q I (k σ H Q q)⟩
theorem PO.imp {e : Option Expr} {t u : TO} (h : PO X e t) (k : ∀ σ H Q, u σ H Q → t σ H Q) : PO X e u := ⟨fun pins s σ H Q I q => h.run pins s σ H Q I (k σ H Q q)⟩
theorem PI.imp {tg e : Expr} {t u : TI} (h : PI X tg e t) (k : ∀ σ H Q, u σ H Q → t σ H Q) : PI X tg e u := ⟨fun pins s σ H Q I q => h.run pins s σ H Q I (k σ H Q q)⟩
theorem PG.imp {e : Expr} {t u : TG} (h : PG X e t) (k : ∀ v σ H Q, u v σ H Q → t v σ H Q) : PG X e u := ⟨fun pins s σ H v w Q I r q => h.run pins s σ H v w Q I r (k v σ H Q q)⟩
theorem PS.imp {e : Stmt} {t u : TS} (h : PS X e t) (k : ∀ D σ H, u D σ H → t D σ H) : PS X e u := ⟨fun pins s σ H D I q => h.run pins s σ H D I (k D σ H q)⟩
theorem PSs.imp {e : List Stmt} {t u : TS} (h : PSs X e t) (k : ∀ D σ H, u D σ H → t D σ H) : PSs X e u := ⟨fun pins s σ H D I q => h.run pins s σ H D I (k D σ H q)⟩
end

/-- one part, then what comes behind it -/
theorem LE_mk {K : PySem.W.Frag} {t : Sg → Mem → K1 → Prop} {σ : L2.St} {H : Hp} {σv : Sg} {μ : Mem} {ρ : List Addr} {R : VK} {Q : K1} (hm : ∀ (Q Q2 : K1), (∀ v μ, Q v μ → Q2 v μ) → t σv μ Q → t σv μ Q2) (s : SgOk K ρ H σv σ) (m : MemOk K ρ H μ)
    (h : t σv μ Q) (k : ∀ v μ1 ρ1 H1 x, Q v μ1 → Grow K ρ H ρ1 H1 → MemOk K ρ1 H1 μ1 → Rep K ρ1 H1 v x → SgOk K ρ1 H1 σv σ → R x H1) : LE K t σ H R :=
  ⟨σv, μ, ρ, s, m, hm _ _ (fun v μ1 q ρ1 H1 x g1 m1 r1 => k v μ1 ρ1 H1 x q g1 m1 r1 (s.grow g1)) h⟩
theorem LA_mk {K : PySem.W.Frag} {t : Sg → Mem → KL → Prop} {σ : L2.St} {H : Hp} {σv : Sg} {μ : Mem} {ρ : List Addr} {R : List V → Hp → Prop} {Q : KL} (hm : ∀ (Q Q2 : KL), (∀ v μ, Q v μ → Q2 v μ) → t σv μ Q → t σv μ Q2) (s : SgOk K ρ H σv σ) (m : MemOk K ρ H μ)
    (h : t σv μ Q) (k : ∀ v μ1 ρ1 H1 x, Q v μ1 → Grow K ρ H ρ1 H1 → MemOk K ρ1 H1 μ1 → Reps K ρ1 H1 v x → SgOk K ρ1 H1 σv σ → R x H1) : LA K t σ H R :=
  ⟨σv, μ, ρ, s, m, hm _ _ (fun v μ1 q ρ1 H1 x g1 m1 r1 => k v μ1 ρ1 H1 x q g1 m1 r1 (s.grow g1)) h⟩
theorem LT_mk {K : PySem.W.Frag} {t : Sg → Mem → K1 → Prop} {σ : L2.St} {H : Hp} {σv : Sg} {μ : Mem} {ρ : List Addr} {R : Bool → Hp → Prop} {Q : KB} (hm : ∀ (Q Q2 : K1), (∀ v μ, Q v μ → Q2 v μ) → t σv μ Q → t σv μ Q2) (s : SgOk K ρ H σv σ) (m : MemOk K ρ H μ)
    (h : t σv μ (tst Q)) (k : ∀ b μ1 ρ1 H1, Q b μ1 → Grow K ρ H ρ1 H1 → MemOk K ρ1 H1 μ1 → SgOk K ρ1 H1 σv σ → R b H1) : LT K t σ H R :=
  ⟨σv, μ, ρ, s, m, hm _ _ (tst_mono fun b μ1 q ρ1 H1 g1 m1 => k b μ1 ρ1 H1 q g1 m1 (s.grow g1)) h⟩
theorem LKB.grow {K : PySem.W.Frag} {ρ ρ2 : List Addr} {H H2 : Hp} {Q : Bool → Hp → Prop} {b : Bool} {μ : Mem} (g : Grow K ρ H ρ2 H2) (h : LKB K ρ H Q b μ) : LKB K ρ2 H2 Q b μ := fun ρ3 H3 g3 m3 => h ρ3 H3 (g.trans g3) m3
theorem tst_grow {K : PySem.W.Frag} {ρ ρ2 : List Addr} {H H2 : Hp} {Q : Bool → Hp → Prop} (g : Grow K ρ H ρ2 H2) : ∀ v μ, tst (LKB K ρ H Q) v μ → tst (LKB K ρ2 H2 Q) v μ := tst_mono fun b μ h => h.grow g
theorem lk_grow {K : PySem.W.Frag} {ρ ρ2 : List Addr} {H H2 : Hp} {Q : VK} (g : Grow K ρ H ρ2 H2) : ∀ v μ, LK K ρ H Q v μ → LK K ρ2 H2 Q v μ := fun v μ h => h.grow g

theorem truth_V {K : PySem.W.Frag} {ρ : List Addr} {H : Hp} {μ : Mem} {v : Vl} {x : V} {k : Bool} (m : MemOk K ρ H μ) (r : Rep K ρ H v x) (h : truth μ v = some k) : TruV K x H k := by
  cases v with
  | none => cases r; simp only [truth, Option.some.injEq] at h; exact h.symm
  | bool b => cases r; simp only [truth, Option.some.injEq] at h; exact h.symm
  | int b => cases r; simp only [truth, Option.some.injEq] at h; exact h.symm
  | str b =>
    cases r
    simp only [truth] at h
    split at h
    · rename_i hz
      simp only [Option.some.injEq] at h
      exact ⟨hz, h.symm⟩
    · cases h
  | tup vs =>
    obtain ⟨a, xs, rfl, q, rs⟩ := r.tup_of
    simp only [truth, Option.some.injEq] at h
    refine .inr (.inl ⟨xs, q, ?_⟩)
    rw [← h]
    cases rs <;> rfl
  | ref i =>
    obtain ⟨a, rfl, q⟩ := r.ref_of
    simp only [truth] at h
    split at h
    · rename_i e
      simp only [Option.some.injEq] at h
      obtain ⟨xs, q2, rs⟩ := lst_of m e q
      refine .inl ⟨xs, q2, ?_⟩
      rw [← h]
      cases rs <;> rfl
    · rw [Option.map_eq_some_iff] at h
      obtain ⟨kvs, e, h⟩ := h
      obtain ⟨ks, q2, rel⟩ := dctm_of m e q
      refine .inr (.inr ⟨ks, q2, ?_⟩)
      rw [← h]
      cases rel <;> rfl

section
variable {X : Cx}
theorem star_cons {e : Expr} {es : List Expr} {env : Env} (h : notStar e = true) : starEach (e :: es) env = (false, eval e env) :: starEach es env := by
  cases e <;> first | rfl | cases h
theorem star_any : ∀ {es : List Expr} {env : Env} {pos : Pos}, es.all notStar = true → (backTo pos (starEach es env)).any (·.1) = false
  | [], _, _, _ => rfl
  | e :: es, env, pos, h => by
    rw [List.all_cons, Bool.and_eq_true] at h
    rw [star_cons h.1]
    show (false || (backTo pos (starEach es env)).any (·.1)) = false
    rw [star_any h.2]
    rfl
theorem star_all : ∀ {es : List Expr} {env : Env} {pos : Pos}, es.all notStar = true → (backTo pos (starEach es env)).all (fun x => !x.1) = true
  | [], _, _, _ => rfl
  | e :: es, env, pos, h => by
    rw [List.all_cons, Bool.and_eq_true] at h
    rw [star_cons h.1]
    show (true && (backTo pos (starEach es env)).all (fun x => !x.1)) = true
    rw [star_all h.2]
    rfl
theorem nameOk_of {n : Str} (h : nameOk n = true) : (n == ("__debug__" : Str)) = false ∧ (n == ("__classdict__" : Str)) = false ∧ n ≠ "__name__" := by
  unfold nameOk at h
  simp only [Bool.and_eq_true, Bool.not_eq_true', decide_eq_false_iff_not] at h
  exact ⟨h.1.1, h.1.2, h.2⟩
theorem vis_of {sc : Scope} {n : Str} (h : visB sc n = true) : Vis sc n := by
  unfold visB at h
  split at h
  · exact .inl (by assumption)
  · exact .inr (.inl (by assumption))
  · exact .inr (.inr (by assumption))
  · cases h
theorem gl_of {n : Str} (h : glB X.env.scope n = true) : Gl X n := by
  unfold glB at h
  split at h
  · assumption
  · cases h
theorem loc_of {fb : Str → Bool} {n : Str} (hf : ∀ x, fb x = true → X.fn x = true) (h : locB X.env.scope fb n = true) : Loc X.env.scope n ∧ (X.fn n = true ∨ X.env.scope.names.lookup n = some .local) := by
  unfold locB at h
  split at h
  · rename_i e; exact ⟨.inl e, .inr e⟩
  · rename_i e; exact ⟨.inr e, .inl (hf n h)⟩
  · cases h
theorem nomarkB {op : CmpOp} {b : Expr} (h : notSet b = true) : behindInMarks op b = false := by
  cases b <;> first | rfl | cases h
theorem attr_base {e : Expr} {f : Str} {env : Env} (h : noCall0 e = true) : attributeBase e f env (eval e env) = eval e env := by
  cases e with
  | Call fn args kws p => cases fn <;> cases args <;> cases kws <;> first | rfl | cases h
  | _ => rfl
theorem plain_ix {b : Expr} (h : notSlice b = true) : PlainIx b := by
  cases b <;> first | (intro o i; rfl) | cases h
theorem no_fold {e : Expr} {env : Env} (h : notSet e = true) : ∀ x, foldedSetIterable e env x = pure x := by
  cases e <;> first | (intro _; rfl) | cases h
theorem no_swap {e : Expr} {t : Option Expr} {l : Nat} {env : Env} (h : isLc e = false) : swapsWith e t l env = pure false := by
  cases e <;> first | rfl | cases h
end
end PV

set_option maxHeartbeats 1000000
/-! zip of a tuple and a list, of a list and a tuple: each side is of its own kind (true: a tuple) -/
namespace PV
open PySem PySem.Spec PyProof.Rows L2 RZ
def itK : Bool → Heap → Addr → Addr → Nat → Prop
  | true, h, it, l, k => h.IsTupleIter it l k
  | false, h, it, l, k => h.IsListIter it l k
def sqK : Bool → Heap → Addr → Array Value → Prop
  | true, h, l, xs => h.IsTuple l xs
  | false, h, l, xs => h.IsList l xs
section
variable {prog : Program} {w : World} {A : Around} {E : Value → Shared → Prop} {s : Shared} {u v : Bool}
theorem itK.but {h h' : Heap} {a b l : Addr} {k : Nat} (x : itK u h a l k) (e : Heap.ExtBut b h h') (n : a ≠ b) : itK u h' a l k := by
  cases u
  · exact Heap.IsListIter.extBut x e n
  · exact Heap.IsTupleIter.extBut x e n
theorem itK.goes {h h' : Heap} {a l : Addr} {k : Nat} (x : itK u h a l k) (e : ∀ o, h.get? a = some o → h'.get? a = some o) : itK u h' a l k := by
  cases u
  · exact Heap.IsListIter.at x e
  · exact Heap.IsTupleIter.at x e
theorem itK.obj {h : Heap} {a l : Addr} {k : Nat} (x : itK u h a l k) : ∃ o, h.get? a = some o ∧ ∀ y, o.data ≠ .cell y := by
  cases u
  · obtain ⟨o, e, _, d⟩ := x
    exact ⟨o, e, fun y q => by rw [d] at q; cases q⟩
  · obtain ⟨o, e, _, d⟩ := x
    exact ⟨o, e, fun y q => by rw [d] at q; cases q⟩
theorem itK.lt {h : Heap} {a l : Addr} {k : Nat} (x : itK u h a l k) : a < h.objs.size := by
  obtain ⟨o, e, _⟩ := x.obj
  exact Heap.lt_size e
theorem sqK.but {h h' : Heap} {a b : Addr} {xs : Array Value} (x : sqK u h a xs) (e : Heap.ExtBut b h h') (n : a ≠ b) : sqK u h' a xs := by
  cases u
  · exact Heap.IsList.extBut x e n
  · exact Heap.IsTuple.extBut x e n
theorem nextK {it l : Addr} {k : Nat} {xs : Array Value} {x : Value} {Q : Value → Shared → Prop} (hi : itK u s.heap it l k) (hl : sqK u s.heap l xs) (hx : xs[k]? = some x)
    (q : ∀ h', itK u h' it l (k + 1) → Heap.SameBut it s.heap h' → Q x { s with heap := h' }) : wpAny (model prog w) A (Builtin.SmallTypes.nextOf (.ref it)) Q E s := by
  cases u
  · exact wpAny_nextOf_list_item hi hl hx q
  · exact nextOf_tuple_item hi hl hx q
theorem nextK_end {it l : Addr} {k : Nat} {xs : Array Value} {Q : Value → Shared → Prop} (hh : A.handled = none) (hi : itK u s.heap it l k) (hl : sqK u s.heap l xs) (hx : xs[k]? = none)
    (q : ∀ h' e, Heap.ExtBut it s.heap h' → (∃ o, h'.get? e = some o ∧ o.cls = .type "StopIteration") → E (.ref e) { s with heap := h' }) : wpAny (model prog w) A (Builtin.SmallTypes.nextOf (.ref it)) Q E s := by
  cases u
  · exact wpAny_nextOf_list_end hh hi hl hx q
  · exact nextOf_tuple_end hh hi hl hx q
theorem zipK_item {z TI TO i1 i2 l1 l2 : Addr} {k1 k2 : Nat} {xs ys : Array Value} {x y a b : Value} {Q : Value → Shared → Prop} (D : ZipApart z TI TO i1 i2 l1 l2)
    (hz : IsZip s.heap z TI TO .none) (hTI : IsPair s.heap TI (.ref i1) (.ref i2)) (hTO : IsPair s.heap TO a b)
    (h1 : itK u s.heap i1 l1 k1) (h2 : itK v s.heap i2 l2 k2) (hl1 : sqK u s.heap l1 xs) (hl2 : sqK v s.heap l2 ys) (hx : xs[k1]? = some x) (hy : ys[k2]? = some y)
    (hQ : ∀ h', IsZip h' z TI TO (rawInt s.heap.objs.size) → IsPair h' TO x y → itK u h' i1 l1 (k1 + 1) → itK v h' i2 l2 (k2 + 1) → IsPair h' s.heap.objs.size x y → h'.objs.size = s.heap.objs.size + 1 →
      (∀ c o, c ≠ z → c ≠ TO → c ≠ i1 → c ≠ i2 → s.heap.get? c = some o → h'.get? c = some o) → Q (.ref s.heap.objs.size) { s with heap := h' }) :
    wpAny (model prog w) A (Builtin.«zip.__next__» ⟨[.ref z], []⟩) (fun fin s' => ∃ v, fin = .done (.ret v) ∧ Q v s') E s := by
  show wpAny _ _ (field (.ref z) 2 >>= _) _ _ _
  refine wpAny_bind (wpAny_field hz rfl (x := .bool false) rfl ?_)
  show wpAny _ _ (field (.ref z) 3 >>= _) _ _ _
  refine wpAny_bind (wpAny_field hz rfl (x := .ref TI) rfl ?_)
  refine wpAny_bind (wpAny_seqItems hTI rfl ?_)
  show wpAny _ _ (Builtin.SmallTypes.ownedTupleIsFree (.ref z) >>= _) _ _ _
  refine wpAny_bind ?_
  unfold Builtin.SmallTypes.ownedTupleIsFree
  refine wpAny_bind (wpAny_field hz rfl (x := .none) rfl (wpAny_pure ?_))
  simp only [if_true]
  refine wpAny_bind (wpAny_rule ?_)
  refine wpAny_bind (wpAny_field hz rfl (x := .ref TO) rfl ?_)
  refine wpAny_bind (wpAny_setField_rec hz (by simp) fun g1 z1 s1 => ?_)
  replace z1 : IsZip g1 z TI TO .ellipsis := z1
  refine wpAny_bind ?_
  simp only [List.zipIdx_cons, List.zipIdx_nil, List.forIn_cons, List.forIn_nil]
  refine wpAny_bind (wpAny_bind (wpAny_onRaise ?_))
  show wpAny _ _ (Builtin.SmallTypes.nextOf (.ref i1) >>= _) _ _ _
  refine wpAny_bind (nextK (h1.but s1.extBut D.i1z) (hl1.but s1.extBut D.l1z) hx fun g2 a2 s2 => wpAny_pure ?_)
  have t2 : IsPair g2 TO a b := s2.extBut _ _ D.TOi1 (s1.extBut _ _ D.TOz hTO)
  refine wpAny_bind (wpAny_seqItems t2 rfl ?_)
  refine wpAny_bind (wpAny_updateSeq_pair t2 fun g3 t3 s3 => ?_)
  replace t3 : IsPair g3 TO x b := t3
  refine wpAny_bind (wpAny_letGo (wpAny_pure ?_))
  refine wpAny_bind (wpAny_bind (wpAny_onRaise ?_))
  show wpAny _ _ (Builtin.SmallTypes.nextOf (.ref i2) >>= _) _ _ _
  refine wpAny_bind (nextK (((h2.but s1.extBut D.i2z).but s2.extBut D.i12.symm).but s3.extBut D.TOi2.symm) (((hl2.but s1.extBut D.l2z).but s2.extBut D.l2i1).but s3.extBut D.l2TO) hy fun g4 a4 s4 => wpAny_pure ?_)
  have t4 : IsPair g4 TO x b := s4.extBut _ _ D.TOi2 t3
  refine wpAny_bind (wpAny_seqItems t4 rfl ?_)
  refine wpAny_bind (wpAny_updateSeq_pair t4 fun g5 t5 s5 => ?_)
  replace t5 : IsPair g5 TO x y := t5
  refine wpAny_bind (wpAny_letGo (wpAny_pure (wpAny_pure ?_)))
  refine wpAny_bind (wpAny_seqItems t5 rfl ?_)
  refine wpAny_bind (wpAny_newTuple ?_)
  have n5 : g5.objs.size = s.heap.objs.size := by rw [s5.1, s4.1, s3.1, s2.1, s1.1]
  have z5 : IsZip g5 z TI TO .ellipsis := s5.extBut _ _ D.TOz.symm (s4.extBut _ _ D.i2z.symm (s3.extBut _ _ D.TOz.symm (s2.extBut _ _ D.i1z.symm z1)))
  have k5 : ∀ c o, c ≠ z → c ≠ TO → c ≠ i1 → c ≠ i2 → s.heap.get? c = some o → g5.get? c = some o := fun c o c1 c2 c3 c4 e =>
    s5.extBut _ _ c2 (s4.extBut _ _ c4 (s3.extBut _ _ c2 (s2.extBut _ _ c3 (s1.extBut _ _ c1 e))))
  have b1 : itK u g5 i1 l1 (k1 + 1) := ((a2.but s3.extBut D.TOi1.symm).but s4.extBut D.i12).but s5.extBut D.TOi1.symm
  have b2 : itK v g5 i2 l2 (k2 + 1) := a4.but s5.extBut D.TOi2.symm
  have zl : z < g5.objs.size := Heap.lt_size z5
  show wpAny _ _ (Builtin.SmallTypes.ownedTupleHandOut (.ref z) (.ref g5.objs.size) >>= _) _ _ _
  refine wpAny_bind ?_
  unfold Builtin.SmallTypes.ownedTupleHandOut
  have z6 : IsZip (g5.push { cls := .type "tuple", data := .seq #[x, y] }) z TI TO .ellipsis := Heap.get?_push_of_some _ z5
  refine wpAny_bind (wpAny_setField_rec z6 (by simp) fun g7 z7 s7 => ?_)
  replace z7 : IsZip g7 z TI TO (rawInt g5.objs.size) := z7
  refine wpAny_setField_rec z7 (by simp) fun g8 z8 s8 => ?_
  replace z8 : IsZip g8 z TI TO (rawInt g5.objs.size) := z8
  have up : ∀ c o, c ≠ z → g5.get? c = some o → g8.get? c = some o := fun c o c1 e => s8.extBut _ _ c1 (s7.extBut _ _ c1 (Heap.get?_push_of_some _ e))
  have p8 : IsPair g8 g5.objs.size x y := s8.extBut _ _ (Nat.ne_of_gt zl) (s7.extBut _ _ (Nat.ne_of_gt zl) (Heap.get?_push_size _ rfl))
  have n8 : g8.objs.size = g5.objs.size + 1 := by rw [s8.1, s7.1, Heap.size_push]
  rw [n5] at z8 p8 n8
  refine wpAny_pure ⟨_, rfl, ?_⟩
  show Q (.ref g5.objs.size) _
  rw [n5]
  exact hQ g8 z8 (up _ _ D.TOz t5) (b1.goes fun o e => up _ o D.i1z e) (b2.goes fun o e => up _ o D.i2z e) p8 n8 fun c o c1 c2 c3 c4 e => up c o c1 (k5 c o c1 c2 c3 c4 e)
theorem zipK_end {z TI TO i1 i2 l1 l2 : Addr} {k1 k2 : Nat} {xs ys : Array Value} {a b : Value} {Q : Fin → Shared → Prop} (hh : A.handled = none) (D : ZipApart z TI TO i1 i2 l1 l2)
    (hz : IsZip s.heap z TI TO .none) (hTI : IsPair s.heap TI (.ref i1) (.ref i2)) (hTO : IsPair s.heap TO a b)
    (h1 : itK u s.heap i1 l1 k1) (h2 : itK v s.heap i2 l2 k2) (hl1 : sqK u s.heap l1 xs) (hl2 : sqK v s.heap l2 ys) (hend : xs[k1]? = none ∨ ys[k2]? = none)
    (hE : ∀ h' e, (∀ c o, c ≠ z → c ≠ TO → c ≠ i1 → c ≠ i2 → s.heap.get? c = some o → h'.get? c = some o) → (∃ o, h'.get? e = some o ∧ o.cls = .type "StopIteration") → E (.ref e) { s with heap := h' }) :
    wpAny (model prog w) A (Builtin.«zip.__next__» ⟨[.ref z], []⟩) Q E s := by
  show wpAny _ _ (field (.ref z) 2 >>= _) _ _ _
  refine wpAny_bind (wpAny_field hz rfl (x := .bool false) rfl ?_)
  show wpAny _ _ (field (.ref z) 3 >>= _) _ _ _
  refine wpAny_bind (wpAny_field hz rfl (x := .ref TI) rfl ?_)
  refine wpAny_bind (wpAny_seqItems hTI rfl ?_)
  show wpAny _ _ (Builtin.SmallTypes.ownedTupleIsFree (.ref z) >>= _) _ _ _
  refine wpAny_bind ?_
  unfold Builtin.SmallTypes.ownedTupleIsFree
  refine wpAny_bind (wpAny_field hz rfl (x := .none) rfl (wpAny_pure ?_))
  simp only [if_true]
  refine wpAny_bind (wpAny_rule ?_)
  refine wpAny_bind (wpAny_field hz rfl (x := .ref TO) rfl ?_)
  refine wpAny_bind (wpAny_setField_rec hz (by simp) fun g1 z1 s1 => ?_)
  replace z1 : IsZip g1 z TI TO .ellipsis := z1
  refine wpAny_bind ?_
  simp only [List.zipIdx_cons, List.zipIdx_nil, List.forIn_cons, List.forIn_nil]
  refine wpAny_bind (wpAny_bind (wpAny_onRaise ?_))
  show wpAny _ _ (Builtin.SmallTypes.nextOf (.ref i1) >>= _) _ _ _
  cases hx : xs[k1]? with
  | none =>
    refine wpAny_bind (nextK_end hh (h1.but s1.extBut D.i1z) (hl1.but s1.extBut D.l1z) hx fun g2 e s2 he => ?_)
    obtain ⟨oe, ge, ce⟩ := he
    have z2 : IsZip g2 z TI TO .ellipsis := s2 _ _ D.i1z.symm z1
    have ez : e ≠ z := fun q => by subst q; rw [z2] at ge; cases ge; simp at ce
    refine wpAny_setField_rec z2 (by simp) fun g3 _ s3 => hE g3 e (fun c o c1 _ c3 _ q => s3.extBut _ _ c1 (s2 _ _ c3 (s1.extBut _ _ c1 q))) ⟨oe, s3.extBut _ _ ez ge, ce⟩
  | some x =>
    have hy : ys[k2]? = none := by
      rcases hend with h | h
      · rw [hx] at h; cases h
      · exact h
    refine wpAny_bind (nextK (h1.but s1.extBut D.i1z) (hl1.but s1.extBut D.l1z) hx fun g2 a2 s2 => wpAny_pure ?_)
    have t2 : IsPair g2 TO a b := s2.extBut _ _ D.TOi1 (s1.extBut _ _ D.TOz hTO)
    refine wpAny_bind (wpAny_seqItems t2 rfl ?_)
    refine wpAny_bind (wpAny_updateSeq_pair t2 fun g3 t3 s3 => ?_)
    refine wpAny_bind (wpAny_letGo (wpAny_pure ?_))
    refine wpAny_bind (wpAny_bind (wpAny_onRaise ?_))
    show wpAny _ _ (Builtin.SmallTypes.nextOf (.ref i2) >>= _) _ _ _
    refine wpAny_bind (nextK_end hh (((h2.but s1.extBut D.i2z).but s2.extBut D.i12.symm).but s3.extBut D.TOi2.symm) (((hl2.but s1.extBut D.l2z).but s2.extBut D.l2i1).but s3.extBut D.l2TO) hy fun g4 e s4 he => ?_)
    obtain ⟨oe, ge, ce⟩ := he
    have z4 : IsZip g4 z TI TO .ellipsis := s4 _ _ D.i2z.symm (s3.extBut _ _ D.TOz.symm (s2.extBut _ _ D.i1z.symm z1))
    have ez : e ≠ z := fun q => by subst q; rw [z4] at ge; cases ge; simp at ce
    refine wpAny_setField_rec z4 (by simp) fun g5 _ s5 => hE g5 e (fun c o c1 c2 c3 c4 q => s5.extBut _ _ c1 (s4 _ _ c4 (s3.extBut _ _ c2 (s2.extBut _ _ c3 (s1.extBut _ _ c1 q))))) ⟨oe, s5.extBut _ _ ez ge, ce⟩
theorem pyNextK {z TI TO i1 i2 l1 l2 : Addr} {k1 k2 : Nat} {xs ys : Array Value} {x y a b : Value} {Q : Option Value → Shared → Prop} (D : ZipApart z TI TO i1 i2 l1 l2)
    (hz : IsZip s.heap z TI TO .none) (hTI : IsPair s.heap TI (.ref i1) (.ref i2)) (hTO : IsPair s.heap TO a b)
    (h1 : itK u s.heap i1 l1 k1) (h2 : itK v s.heap i2 l2 k2) (hl1 : sqK u s.heap l1 xs) (hl2 : sqK v s.heap l2 ys) (hx : xs[k1]? = some x) (hy : ys[k2]? = some y)
    (hQ : ∀ h', IsZip h' z TI TO (rawInt s.heap.objs.size) → IsPair h' TO x y → itK u h' i1 l1 (k1 + 1) → itK v h' i2 l2 (k2 + 1) → IsPair h' s.heap.objs.size x y → h'.objs.size = s.heap.objs.size + 1 →
      (∀ c o, c ≠ z → c ≠ TO → c ≠ i1 → c ≠ i2 → s.heap.get? c = some o → h'.get? c = some o) → Q (some (.ref s.heap.objs.size)) { s with heap := h' }) :
    wpAny (model prog w) A (pyNext (.ref z)) Q E s := by
  have hT : s.TypeIs (.ref z) "zip" := ⟨_, hz, rfl⟩
  unfold pyNext
  exact wpAny_bind (wpAny_attempt (wpAny_callSpecial?_slot (name := Str.ofString "__next__") hT F.slot_zip_next
    (wpAny_call_entry F.slot_zip_next hT F.entry_zip_next
      (zipK_item D hz hTI hTO h1 h2 hl1 hl2 hx hy fun h' a1 a2 a3 a4 a5 a6 a7 => wpAny_pure (hQ h' a1 a2 a3 a4 a5 a6 a7)) (F.args_zip_next_1 _))))
theorem pyNextK_end {z TI TO i1 i2 l1 l2 : Addr} {k1 k2 : Nat} {xs ys : Array Value} {a b : Value} {Q : Option Value → Shared → Prop} (hh : A.handled = none) (D : ZipApart z TI TO i1 i2 l1 l2)
    (hz : IsZip s.heap z TI TO .none) (hTI : IsPair s.heap TI (.ref i1) (.ref i2)) (hTO : IsPair s.heap TO a b)
    (h1 : itK u s.heap i1 l1 k1) (h2 : itK v s.heap i2 l2 k2) (hl1 : sqK u s.heap l1 xs) (hl2 : sqK v s.heap l2 ys) (hend : xs[k1]? = none ∨ ys[k2]? = none)
    (hQ : ∀ h', (∀ c o, c ≠ z → c ≠ TO → c ≠ i1 → c ≠ i2 → s.heap.get? c = some o → h'.get? c = some o) → Q none { s with heap := h' }) : wpAny (model prog w) A (pyNext (.ref z)) Q E s := by
  have hT : s.TypeIs (.ref z) "zip" := ⟨_, hz, rfl⟩
  unfold pyNext
  refine wpAny_bind (wpAny_attempt (wpAny_callSpecial?_slot (name := Str.ofString "__next__") hT F.slot_zip_next
    (wpAny_call_entry F.slot_zip_next hT F.entry_zip_next (zipK_end hh D hz hTI hTO h1 h2 hl1 hl2 hend fun h' e hk he => ?_) (F.args_zip_next_1 _))))
  obtain ⟨o, ho, hc⟩ := he
  refine wpAny_bind (wpAny_isInstance (T := "StopIteration") (b := true) ⟨o, ho, hc⟩ isSubtype_stop ?_)
  exact wpAny_pure (hQ _ hk)
end

def itO : Bool → Addr → Obj
  | true, l => { cls := .type "tuple_iterator", data := .fields #[.ref l, .int 0 0] }
  | false, l => { cls := .type "list_iterator", data := .fields #[.ref l, .int 0 0] }
theorem itK_new (u : Bool) {h : Heap} {a l : Addr} (e : h.get? a = some (itO u l)) : itK u h a l 0 := by
  cases u
  · exact ⟨_, e, rfl, rfl⟩
  · exact ⟨_, e, rfl, rfl⟩
abbrev zK1 (u : Bool) (h : Heap) (l1 : Addr) : Heap := h.push (itO u l1)
abbrev zK2 (u v : Bool) (h : Heap) (l1 l2 : Addr) : Heap := (zK1 u h l1).push (itO v l2)
abbrev zK3 (u v : Bool) (h : Heap) (l1 l2 : Addr) : Heap := (zK2 u v h l1 l2).push { cls := .type "tuple", data := .seq #[.ref h.objs.size, .ref (zK1 u h l1).objs.size] }
abbrev zK4 (u v : Bool) (h : Heap) (l1 l2 : Addr) : Heap := (zK3 u v h l1 l2).push { cls := .type "tuple", data := .seq #[.none, .none] }
abbrev zK5 (u v : Bool) (h : Heap) (l1 l2 : Addr) : Heap := (zK4 u v h l1 l2).push { cls := .type "zip", data := .fields #[.none, .bool false, .bool false, .ref (zK2 u v h l1 l2).objs.size, .ref (zK3 u v h l1 l2).objs.size] }
theorem meetsTL (l1 l2 : Addr) (xs ys : Array Value) :
    Meets (Builtin.«zip.__new__» ⟨[.type "zip", .ref l1, .ref l2], []⟩) (fun _ R s => s.heap.IsTuple l1 xs ∧ s.heap.IsList l2 ys ∧
      R (.ok (.ret (.ref (zK4 true false s.heap l1 l2).objs.size))) { s with heap := zK5 true false s.heap l1 l2 }) :=
  .of_wp fun prog w A R s h => by
    obtain ⟨hp, g, d, tk, os⟩ := s; obtain ⟨hl1, hl2, h⟩ := h
    have hsub := sub_zip
    have hL1 : Heap.IsTuple (Shared.heap ⟨hp, g, d, tk, os⟩) l1 xs := hl1
    have hL2 : Heap.IsList (Shared.heap ⟨hp.push { cls := .type "tuple_iterator", data := .fields #[.ref l1, .int 0 0] }, g, d, tk, os⟩) l2 ys := Heap.IsList.push hl2 _
    wp_walk using wpAny_pyIter_tuple hL1, wpAny_pyIter_list hL2
    exact ⟨_, rfl, h⟩
theorem meetsLT (l1 l2 : Addr) (xs ys : Array Value) :
    Meets (Builtin.«zip.__new__» ⟨[.type "zip", .ref l1, .ref l2], []⟩) (fun _ R s => s.heap.IsList l1 xs ∧ s.heap.IsTuple l2 ys ∧
      R (.ok (.ret (.ref (zK4 false true s.heap l1 l2).objs.size))) { s with heap := zK5 false true s.heap l1 l2 }) :=
  .of_wp fun prog w A R s h => by
    obtain ⟨hp, g, d, tk, os⟩ := s; obtain ⟨hl1, hl2, h⟩ := h
    have hsub := sub_zip
    have hL1 : Heap.IsList (Shared.heap ⟨hp, g, d, tk, os⟩) l1 xs := hl1
    have hL2 : Heap.IsTuple (Shared.heap ⟨hp.push { cls := .type "list_iterator", data := .fields #[.ref l1, .int 0 0] }, g, d, tk, os⟩) l2 ys := Heap.IsTuple.push hl2 _
    wp_walk using wpAny_pyIter_list hL1, wpAny_pyIter_tuple hL2
    exact ⟨_, rfl, h⟩
section
variable {prog : Program} {w : World} {A : Around} {E : Value → Shared → Prop} {s : Shared}
theorem zK_sizes (u v : Bool) (h : Heap) (l1 l2 : Addr) : (zK1 u h l1).objs.size = h.objs.size + 1 ∧ (zK2 u v h l1 l2).objs.size = h.objs.size + 2 ∧ (zK3 u v h l1 l2).objs.size = h.objs.size + 3 ∧ (zK4 u v h l1 l2).objs.size = h.objs.size + 4 ∧ (zK5 u v h l1 l2).objs.size = h.objs.size + 5 := by
  have z1 : (zK1 u h l1).objs.size = h.objs.size + 1 := Heap.size_push ..
  have z2 : (zK2 u v h l1 l2).objs.size = h.objs.size + 2 := by rw [Heap.size_push, z1]
  have z3 : (zK3 u v h l1 l2).objs.size = h.objs.size + 3 := by rw [Heap.size_push, z2]
  have z4 : (zK4 u v h l1 l2).objs.size = h.objs.size + 4 := by rw [Heap.size_push, z3]
  have z5 : (zK5 u v h l1 l2).objs.size = h.objs.size + 5 := by rw [Heap.size_push, z4]
  exact ⟨z1, z2, z3, z4, z5⟩
theorem zK_all (u v : Bool) (h : Heap) (l1 l2 : Addr) : IsZip (zK5 u v h l1 l2) (h.objs.size + 4) (h.objs.size + 2) (h.objs.size + 3) .none ∧ IsPair (zK5 u v h l1 l2) (h.objs.size + 2) (.ref h.objs.size) (.ref (h.objs.size + 1)) ∧
    IsPair (zK5 u v h l1 l2) (h.objs.size + 3) .none .none ∧ itK u (zK5 u v h l1 l2) h.objs.size l1 0 ∧ itK v (zK5 u v h l1 l2) (h.objs.size + 1) l2 0 ∧ ∀ c o, h.get? c = some o → (zK5 u v h l1 l2).get? c = some o := by
  obtain ⟨z1, z2, z3, z4, z5⟩ := zK_sizes u v h l1 l2
  have g5 : (zK5 u v h l1 l2).get? (zK4 u v h l1 l2).objs.size = some _ := Heap.get?_push_size _ rfl
  have g4 : (zK5 u v h l1 l2).get? (zK3 u v h l1 l2).objs.size = some _ := Heap.get?_push_of_some _ (Heap.get?_push_size _ rfl)
  have g3 : (zK5 u v h l1 l2).get? (zK2 u v h l1 l2).objs.size = some _ := Heap.get?_push_of_some _ (Heap.get?_push_of_some _ (Heap.get?_push_size _ rfl))
  have g2 : (zK5 u v h l1 l2).get? (zK1 u h l1).objs.size = some (itO v l2) := Heap.get?_push_of_some _ (Heap.get?_push_of_some _ (Heap.get?_push_of_some _ (Heap.get?_push_size _ (by cases v <;> rfl))))
  have g1 : (zK5 u v h l1 l2).get? h.objs.size = some (itO u l1) := Heap.get?_push_of_some _ (Heap.get?_push_of_some _ (Heap.get?_push_of_some _ (Heap.get?_push_of_some _ (Heap.get?_push_size _ (by cases u <;> rfl)))))
  rw [z2, z3, z4] at g5
  rw [z1, z2] at g3
  rw [z3] at g4
  rw [z1] at g2
  exact ⟨g5, g3, g4, itK_new u g1, itK_new v g2, fun c o x => Heap.get?_push_of_some _ (Heap.get?_push_of_some _ (Heap.get?_push_of_some _ (Heap.get?_push_of_some _ (Heap.get?_push_of_some _ x))))⟩
theorem call_zipTL {l1 l2 : Addr} {xs ys : Array Value} {Q : Value → Shared → Prop} (hl1 : s.heap.IsTuple l1 xs) (hl2 : s.heap.IsList l2 ys)
    (h : ∀ h', IsZip h' (s.heap.objs.size + 4) (s.heap.objs.size + 2) (s.heap.objs.size + 3) .none → IsPair h' (s.heap.objs.size + 2) (.ref s.heap.objs.size) (.ref (s.heap.objs.size + 1)) →
      IsPair h' (s.heap.objs.size + 3) .none .none → itK true h' s.heap.objs.size l1 0 → itK false h' (s.heap.objs.size + 1) l2 0 → h'.objs.size = s.heap.objs.size + 5 →
      (∀ c o, s.heap.get? c = some o → h'.get? c = some o) → Q (.ref (s.heap.objs.size + 4)) { s with heap := h' }) :
    wpAny (model prog w) A (call (.type "zip") [.ref l1, .ref l2]) Q E s := by
  refine callType_new F.called_zip (by decide) (F.typeCall_zip_2 _ _) (F.newCall_zip_2 _ _) (fun obj => F.args_object_init_3 obj _ _) F.entry_zip_new (meetsTL l1 l2 xs ys) ⟨hl1, hl2, ?_⟩
  obtain ⟨_, _, _, z4, z5⟩ := zK_sizes true false s.heap l1 l2
  obtain ⟨a1, a2, a3, a4, a5, a6⟩ := zK_all true false s.heap l1 l2
  show _ ∧ _
  rw [z4]
  exact ⟨⟨_, a1, rfl⟩, h _ a1 a2 a3 a4 a5 z5 a6⟩
theorem call_zipLT {l1 l2 : Addr} {xs ys : Array Value} {Q : Value → Shared → Prop} (hl1 : s.heap.IsList l1 xs) (hl2 : s.heap.IsTuple l2 ys)
    (h : ∀ h', IsZip h' (s.heap.objs.size + 4) (s.heap.objs.size + 2) (s.heap.objs.size + 3) .none → IsPair h' (s.heap.objs.size + 2) (.ref s.heap.objs.size) (.ref (s.heap.objs.size + 1)) →
      IsPair h' (s.heap.objs.size + 3) .none .none → itK false h' s.heap.objs.size l1 0 → itK true h' (s.heap.objs.size + 1) l2 0 → h'.objs.size = s.heap.objs.size + 5 →
      (∀ c o, s.heap.get? c = some o → h'.get? c = some o) → Q (.ref (s.heap.objs.size + 4)) { s with heap := h' }) :
    wpAny (model prog w) A (call (.type "zip") [.ref l1, .ref l2]) Q E s := by
  refine callType_new F.called_zip (by decide) (F.typeCall_zip_2 _ _) (F.newCall_zip_2 _ _) (fun obj => F.args_object_init_3 obj _ _) F.entry_zip_new (meetsLT l1 l2 xs ys) ⟨hl1, hl2, ?_⟩
  obtain ⟨_, _, _, z4, z5⟩ := zK_sizes false true s.heap l1 l2
  obtain ⟨a1, a2, a3, a4, a5, a6⟩ := zK_all false true s.heap l1 l2
  show _ ∧ _
  rw [z4]
  exact ⟨⟨_, a1, rfl⟩, h _ a1 a2 a3 a4 a5 z5 a6⟩
end
/-- the side at a as it stands -/
def SqX (u : Bool) (K : PySem.W.Frag) (H : Hp) (a : Addr) (xs : List V) : Prop := match u with
  | true => SqT K H a xs
  | false => SqL K H a xs
theorem SqX.now {X : Cx} {pins : List (Addr × Obj)} {σ : L2.St} {H : Hp} {s : Shared} {u : Bool} {a : Addr} {xs : List V} (I : Inv X pins σ H s) (h : SqX u X.K H a xs) : ∃ its : List Value, Vals xs its ∧ sqK u s.heap a its.toArray := by
  cases u
  · obtain ⟨its, r, p, _⟩ := I.list h
    exact ⟨its, r, p.isList⟩
  · obtain ⟨its, r, p, _⟩ := I.tuple h
    exact ⟨its, r, p⟩
theorem SqX.one {X : Cx} {pins : List (Addr × Obj)} {σ : L2.St} {H : Hp} {s : Shared} {u : Bool} {a : Addr} {xs ys : List V} (I : Inv X pins σ H s) (h : SqX u X.K H a xs) (g : SqX u X.K H a ys) : xs = ys := by
  cases u
  · exact I.list_inj h g
  · exact I.tuple_inj h g
def ItzX (u v : Bool) (K : PySem.W.Frag) (a b : Addr) : It :=
  ⟨fun i H => ∃ (xs ys : List V) (x y : V), SqX u K H a xs ∧ SqX v K H b ys ∧ xs[i]? = some x ∧ ys[i]? = some y,
    fun i H w H' => ∃ T x y, w = .ref T ∧ H T = none ∧ H' = upd H T (.tup [x, y]) ∧ (∀ xs, SqX u K H a xs → xs[i]? = some x) ∧ ∀ ys, SqX v K H b ys → ys[i]? = some y,
    fun i H => ∃ xs ys : List V, SqX u K H a xs ∧ SqX v K H b ys ∧ (xs.length ≤ i ∨ ys.length ≤ i)⟩
theorem turn_zipX {P : Program} {w : World} {K : PySem.W.Frag} {elts : List Expr} {kk : Nat} {tpos : Pos} {u v : Bool} {a b z TI TO i1 i2 : Addr} (D : ZipApart z TI TO i1 i2 a b) :
    Turn P w K (.Tuple elts kk tpos) (ItzX u v K a b) [z, TI, TO, i1, i2] z (fun i h => IsZip h z TI TO .none ∧ IsPair h TI (.ref i1) (.ref i2) ∧ (∃ x y, IsPair h TO x y) ∧ itK u h i1 a i ∧ itK v h i2 b i) where
  mem := by simp
  obj := fun i h st c hc => by
    obtain ⟨hz, hTI, ⟨x, y, hTO⟩, h1, h2⟩ := st
    have e' : c = z ∨ c = TI ∨ c = TO ∨ c = i1 ∨ c = i2 := by simpa using hc
    rcases e' with q | q | q | q | q
    · rw [q]; exact ⟨_, hz, fun v q => nomatch q⟩
    · rw [q]; exact ⟨_, hTI, fun v q => nomatch q⟩
    · rw [q]; exact ⟨_, hTO, fun v q => nomatch q⟩
    · rw [q]; exact h1.obj
    · rw [q]; exact h2.obj
  keep := fun i h h' st k => by
    obtain ⟨hz, hTI, ⟨x, y, hTO⟩, h1, h2⟩ := st
    exact ⟨k z (by simp) _ hz, k TI (by simp) _ hTI, ⟨x, y, k TO (by simp) _ hTO⟩, h1.goes fun o q => k i1 (by simp) o q, h2.goes fun o q => k i2 (by simp) o q⟩
  item := by
    intro X hP hw hK hc i pins s σ H E I hf st hg
    subst hP hw hK
    obtain ⟨hz, hTI, ⟨x0, y0, hTO⟩, h1, h2⟩ := st
    obtain ⟨xs, ys, x, y, hqx, hqy, hx, hy⟩ := hg
    obtain ⟨its, rv, p⟩ := hqx.now I
    obtain ⟨its2, rv2, p2⟩ := hqy.now I
    obtain ⟨c1, hc1, rc1⟩ := rv.get hx
    obtain ⟨c2, hc2, rc2⟩ := rv2.get hy
    have hzl : z < s.heap.objs.size := Heap.lt_size hz
    refine pyNextK D hz hTI hTO h1 h2 p p2 (x := c1) (y := c2) (by simpa using hc1) (by simpa using hc2) fun h' z' TO' h1' h2' hT hsz hk => ?_
    refine ⟨_, rfl, wpAny_letOwnedTupleGo_zip (s := { s with heap := h' }) z' fun h'' z'' sb => ?_⟩
    have hT2 : h''.get? s.heap.objs.size = some { cls := .type "tuple", data := .seq #[c1, c2] } := (sb.2 _ (Nat.ne_of_gt hzl)).trans hT
    have new : ObjOk X.prog X.w (upd H s.heap.objs.size (.tup [x, y])) h'' s.heap.objs.size (.tup [x, y]) :=
      ⟨by show 2 ≤ sizeLine; decide, [c1, c2], .cons rc1 (.cons rc2 .nil), ⟨_, hT2, rfl, _, rfl⟩⟩
    have I1 : Inv X pins σ (upd H s.heap.objs.size (.tup [x, y])) { s with heap := h'' } :=
      I.turnedNew (t' := s.toks) (ch := [z, TI, TO, i1, i2]) (fun c o hb q => (sb.2 c (fun q' => hb (by simp [q']))).trans (hk c o (fun q' => hb (by simp [q'])) (fun q' => hb (by simp [q'])) (fun q' => hb (by simp [q'])) (fun q' => hb (by simp [q'])) q)) hf (Nat.le_refl _) new
    refine ⟨.ref s.heap.objs.size, _, I1, rfl, ⟨_, x, y, rfl, I.hok.fresh (Nat.le_refl _), rfl, fun l hl => by rw [hl.one I hqx]; exact hx, fun l hl => by rw [hl.one I hqy]; exact hy⟩, ⟨z'', ?_, ⟨c1, c2, ?_⟩, ?_, ?_⟩, fun c hcm => ?_⟩
    · exact (sb.2 _ D.TIz).trans (hk _ _ D.TIz D.TITO D.TIi1 D.TIi2 hTI)
    · exact (sb.2 _ D.TOz).trans TO'
    · exact h1'.goes fun o q => (sb.2 _ D.i1z).trans q
    · exact h2'.goes fun o q => (sb.2 _ D.i2z).trans q
    · have hlt : c < s.heap.objs.size := by
        have e' : c = z ∨ c = TI ∨ c = TO ∨ c = i1 ∨ c = i2 := by simpa using hcm
        rcases e' with q | q | q | q | q
        · rw [q]; exact hzl
        · rw [q]; exact Heap.lt_size hTI
        · rw [q]; exact Heap.lt_size hTO
        · rw [q]; exact h1.lt
        · rw [q]; exact h2.lt
      rw [upd_ne (Nat.ne_of_lt hlt)]
      exact (hf c hcm).1
  done := by
    intro X hP hw hK hc i pins s σ H E I hf st hg
    subst hP hw hK
    obtain ⟨hz, hTI, ⟨x0, y0, hTO⟩, h1, h2⟩ := st
    obtain ⟨xs, ys, hqx, hqy, hend⟩ := hg
    obtain ⟨its, rv, p⟩ := hqx.now I
    obtain ⟨its2, rv2, p2⟩ := hqy.now I
    have l1 := rv.length
    have l2 := rv2.length
    have he : its.toArray[i]? = none ∨ its2.toArray[i]? = none := by
      rcases hend with q | q
      · exact .inl (by simp; omega)
      · exact .inr (by simp; omega)
    exact pyNextK_end (I.ok.hd hc) D hz hTI hTO h1 h2 p p2 he fun h' hk => ⟨rfl, I.turnedL (t' := s.toks) (ch := [z, TI, TO, i1, i2]) (fun c o hb q =>
      hk c o (fun q' => hb (by simp [q'])) (fun q' => hb (by simp [q'])) (fun q' => hb (by simp [q'])) (fun q' => hb (by simp [q'])) q) hf⟩
  self := fun A i s Q E st h => wpAny_pyIter_zip st.1 h
def iZipX (K : PySem.W.Frag) (ta : TA) : TI := fun σ H R => ta σ H fun vs H1 => ∃ a b xs ys, vs = [.ref a, .ref b] ∧ ((SqL K H1 a xs ∧ SqL K H1 b ys ∧ R (Itz K a b) H1) ∨ (SqT K H1 a xs ∧ SqT K H1 b ys ∧ R (ItzT K a b) H1) ∨ (SqT K H1 a xs ∧ SqL K H1 b ys ∧ R (ItzX true false K a b) H1) ∨ (SqL K H1 a xs ∧ SqT K H1 b ys ∧ R (ItzX false true K a b) H1))
theorem pi_zipX {X : Cx} {e e2 : Expr} {ta : TA} {p pos tpos : Pos} {elts : List Expr} {kk : Nat} (hg : Gl X "zip") (hm : X.mg "zip" = none) (ha : PA X [e, e2] ta)
    (hs : starEach [e, e2] X.env = (false, eval e X.env) :: starEach [e2] X.env := by rfl) (hpl : (backTo pos (starEach [e2] X.env)).any (·.1) = false := by rfl) :
    PI X (.Tuple elts kk tpos) (.Call (.Name "zip" p) [e, e2] [] pos) (iZipX X.K ta) := by
  refine ⟨fun pins s σ H R I h => ?_⟩
  refine Call_ (ld_blt I hg hm PyProof.Rows.boot_zip (PyProof.Rows.callWith_type1 (thn (ha.run pos pins s σ H _ I h) fun us s1 ⟨vs, H1, I1, r1, q1⟩ => ?_) hs hpl))
  obtain ⟨a, b, xs, ys, ex, q1⟩ := q1
  subst ex
  cases r1 with
  | cons r rr =>
    cases rr with
    | cons r' rr =>
      cases rr
      cases r
      cases r'
      have fresh5 : ∀ c, c ∈ [s1.heap.objs.size + 4, s1.heap.objs.size + 2, s1.heap.objs.size + 3, s1.heap.objs.size, s1.heap.objs.size + 1] → FpOk X pins H1 c := fun c hcm => by
        have e' : c = s1.heap.objs.size + 4 ∨ c = s1.heap.objs.size + 2 ∨ c = s1.heap.objs.size + 3 ∨ c = s1.heap.objs.size ∨ c = s1.heap.objs.size + 1 := by simpa using hcm
        have hle : s1.heap.objs.size ≤ c := by
          rcases e' with z | z | z | z | z
          · rw [z]; exact Nat.le_add_right _ _
          · rw [z]; exact Nat.le_add_right _ _
          · rw [z]; exact Nat.le_add_right _ _
          · rw [z]; exact Nat.le_refl _
          · rw [z]; exact Nat.le_add_right _ _
        exact I1.fpOk hle (I1.hok.fresh hle)
      rcases q1 with ⟨hqx, hqy, q⟩ | ⟨hqx, hqy, q⟩ | ⟨hqx, hqy, q⟩ | ⟨hqx, hqy, q⟩
      · obtain ⟨its, rv, p1, _⟩ := I1.list hqx
        obtain ⟨its2, rv2, p2, _⟩ := I1.list hqy
        refine call_zip_2 p1.isList p2.isList fun h' hz hTI hTO h1 h2 hsz hk => wpAny_pyIter_zip hz ?_
        have I2 : Inv X pins σ H1 { s1 with heap := h' } := I1.kept (t' := s1.toks) hk
        exact ⟨s1.heap.objs.size + 4, [s1.heap.objs.size + 4, s1.heap.objs.size + 2, s1.heap.objs.size + 3, s1.heap.objs.size, s1.heap.objs.size + 1], _, _, H1, rfl, I2, turn_zip (PySem.W.ktu_apart s1.heap.objs.size a b p1.lt p2.lt), ⟨hz, hTI, ⟨_, _, hTO⟩, h1, h2⟩, fresh5, q⟩
      · obtain ⟨its, rv, p1, _⟩ := I1.tuple hqx
        obtain ⟨its2, rv2, p2, _⟩ := I1.tuple hqy
        obtain ⟨o1, ho1, _⟩ := id p1
        obtain ⟨o2, ho2, _⟩ := id p2
        refine call_zipT (show s1.heap.IsTuple a its.toArray from p1) (show s1.heap.IsTuple b its2.toArray from p2) fun h' hz hTI hTO h1 h2 hsz hk => wpAny_pyIter_zip hz ?_
        have I2 : Inv X pins σ H1 { s1 with heap := h' } := I1.kept (t' := s1.toks) hk
        exact ⟨s1.heap.objs.size + 4, [s1.heap.objs.size + 4, s1.heap.objs.size + 2, s1.heap.objs.size + 3, s1.heap.objs.size, s1.heap.objs.size + 1], _, _, H1, rfl, I2, turn_zipT (PySem.W.ktu_apart s1.heap.objs.size a b (Heap.lt_size ho1) (Heap.lt_size ho2)), ⟨hz, hTI, ⟨_, _, hTO⟩, h1, h2⟩, fresh5, q⟩
      · obtain ⟨its, rv, p1, _⟩ := I1.tuple hqx
        obtain ⟨its2, rv2, p2, _⟩ := I1.list hqy
        obtain ⟨o1, ho1, _⟩ := id p1
        refine call_zipTL (show s1.heap.IsTuple a its.toArray from p1) p2.isList fun h' hz hTI hTO h1 h2 hsz hk => wpAny_pyIter_zip hz ?_
        have I2 : Inv X pins σ H1 { s1 with heap := h' } := I1.kept (t' := s1.toks) hk
        exact ⟨s1.heap.objs.size + 4, [s1.heap.objs.size + 4, s1.heap.objs.size + 2, s1.heap.objs.size + 3, s1.heap.objs.size, s1.heap.objs.size + 1], _, _, H1, rfl, I2, turn_zipX (PySem.W.ktu_apart s1.heap.objs.size a b (Heap.lt_size ho1) p2.lt), ⟨hz, hTI, ⟨_, _, hTO⟩, h1, h2⟩, fresh5, q⟩
      · obtain ⟨its, rv, p1, _⟩ := I1.list hqx
        obtain ⟨its2, rv2, p2, _⟩ := I1.tuple hqy
        obtain ⟨o2, ho2, _⟩ := id p2
        refine call_zipLT p1.isList (show s1.heap.IsTuple b its2.toArray from p2) fun h' hz hTI hTO h1 h2 hsz hk => wpAny_pyIter_zip hz ?_
        have I2 : Inv X pins σ H1 { s1 with heap := h' } := I1.kept (t' := s1.toks) hk
        exact ⟨s1.heap.objs.size + 4, [s1.heap.objs.size + 4, s1.heap.objs.size + 2, s1.heap.objs.size + 3, s1.heap.objs.size, s1.heap.objs.size + 1], _, _, H1, rfl, I2, turn_zipX (PySem.W.ktu_apart s1.heap.objs.size a b p1.lt (Heap.lt_size ho2)), ⟨hz, hTI, ⟨_, _, hTO⟩, h1, h2⟩, fresh5, q⟩
end PV

/-! walked things; expressions -/
namespace PV
open PySem PySem.Spec PyProof.Rows L2

section
variable {K : PySem.W.Frag} {ρ ρ2 : List Addr} {H H2 : Hp} {μ μ2 : Mem} {a b : Addr} {vs ws : List Vl} {v w : Vl}
/-- a value that is walked: a list at its place (as it stands), or a tuple -/
inductive Src (K : PySem.W.Frag) (ρ : List Addr) (H : Hp) (vs : List Vl) (a : Addr) (v : Vl) : Prop where
  | lst (r : Nat) (e : v = .ref r) (h : ρ[r]? = some a)
  | tup (xs : List V) (e : v = .tup vs) (h : SqT K H a xs) (r : Reps K ρ H vs xs)
theorem src_of (m : MemOk K ρ H μ) {x : V} (h : seqOf μ v = some vs) (r : Rep K ρ H v x) : ∃ a, x = .ref a ∧ Src K ρ H vs a v := by
  cases v with
  | tup us =>
    obtain ⟨a, xs, e, q, rs⟩ := r.tup_of
    simp only [seqOf, Option.some.injEq] at h
    subst h
    exact ⟨a, e, .tup xs rfl q rs⟩
  | ref i =>
    obtain ⟨a, e, q⟩ := r.ref_of
    exact ⟨a, e, .lst i rfl q⟩
  | _ => simp [seqOf] at h
theorem Src.grow (g : Grow K ρ H ρ2 H2) (s : Src K ρ H vs a v) : Src K ρ2 H2 vs a v := by
  cases s with
  | lst r e h => exact .lst r e (g.at h)
  | tup xs e h r => exact .tup xs e (g.tups _ _ h) (r.grow g)
/-- what stands there now -/
theorem Src.now (s : Src K ρ H vs a v) (g : Grow K ρ H ρ2 H2) (m : MemOk K ρ2 H2 μ2) (hg : gd μ2 (srcOf v vs)) : (∃ r, v = .ref r ∧ ∃ xs, SqL K H2 a xs ∧ Reps K ρ2 H2 vs xs) ∨ (v = .tup vs ∧ ∃ xs, SqT K H2 a xs ∧ Reps K ρ2 H2 vs xs) := by
  cases s with
  | lst r e h =>
    subst e
    obtain ⟨xs, q, rs⟩ := lst_of m hg.1 (g.at h)
    exact .inl ⟨r, rfl, xs, q, rs⟩
  | tup xs e h r => exact .inr ⟨e, xs, g.tups _ _ h, r.grow g⟩
theorem Src.nowL (s : Src K ρ H vs a v) {r : Nat} (e : v = .ref r) (g : Grow K ρ H ρ2 H2) (m : MemOk K ρ2 H2 μ2) (hg : gd μ2 (srcOf v vs)) : ∃ xs, SqL K H2 a xs ∧ Reps K ρ2 H2 vs xs := by
  rcases s.now g m hg with ⟨_, _, h⟩ | ⟨e2, _⟩
  · exact h
  · rw [e] at e2; cases e2
theorem Src.nowT (s : Src K ρ H vs a v) {us : List Vl} (e : v = .tup us) (g : Grow K ρ H ρ2 H2) (m : MemOk K ρ2 H2 μ2) (hg : gd μ2 (srcOf v vs)) : ∃ xs, SqT K H2 a xs ∧ Reps K ρ2 H2 vs xs := by
  rcases s.now g m hg with ⟨_, e2, _⟩ | ⟨_, h⟩
  · rw [e] at e2; cases e2
  · exact h

/-- walks that give what stands in the source -/
theorem wk_at {k : Wk} {J : L2.It} (f : Nat → Nat) (xsAt : Hp → List V → Prop) (src : ∀ ρ2 H2 μ2, Grow K ρ H ρ2 H2 → MemOk K ρ2 H2 μ2 → gd μ2 k.src → ∃ xs, xsAt H2 xs ∧ Reps K ρ2 H2 vs xs)
    (hl : k.items.length = vs.length) (hi : ∀ i, i < vs.length → f i < vs.length ∧ k.items[i]? = vs[f i]?)
    (go : ∀ i H2 xs x, i < vs.length → xsAt H2 xs → xs.length = vs.length → xs[f i]? = some x → J.go i H2) (stop : ∀ H2 xs, xsAt H2 xs → xs.length = vs.length → J.stop vs.length H2)
    (yld : ∀ i H2 x H3 xs, J.yld i H2 x H3 → xsAt H2 xs → H3 = H2 ∧ xs[f i]? = some x) : WkOk K ρ H k J := by
  refine ⟨fun i ρ2 H2 μ2 hlt g m hg => ?_, fun ρ2 H2 μ2 g m hg => ?_, fun i ρ2 H2 μ2 x H3 v g m hg y hv => ?_⟩
  · obtain ⟨xs, q, rs⟩ := src ρ2 H2 μ2 g m hg
    have h1 : i < vs.length := by omega
    have h2 : f i < xs.length := by rw [← rs.length]; exact (hi i h1).1
    exact go i H2 xs xs[f i] h1 q rs.length.symm (List.getElem?_eq_getElem h2)
  · obtain ⟨xs, q, rs⟩ := src ρ2 H2 μ2 g m hg
    rw [hl]
    exact stop H2 xs q rs.length.symm
  · obtain ⟨xs, q, rs⟩ := src ρ2 H2 μ2 g m hg
    obtain ⟨rfl, e⟩ := yld i H2 x H3 xs y q
    have h1 : i < vs.length := by
      have := (List.getElem?_eq_some_iff.mp hv).1
      omega
    rw [(hi i h1).2] at hv
    obtain ⟨x', e1, r1⟩ := rs.get hv
    rw [e] at e1; cases e1
    exact ⟨Grow.refl, m, r1⟩
theorem wk_list (s : Src K ρ H vs a v) {r : Nat} (e : v = .ref r) : WkOk K ρ H ⟨vs, srcOf v vs, none⟩ (Itl K a) :=
  wk_at (fun i => i) (fun H2 xs => SqL K H2 a xs) (fun _ _ _ g m hg => s.nowL e g m hg) rfl (fun i hi => ⟨hi, rfl⟩) (fun i H2 xs x hi q hl hx => ⟨xs, x, q, hx⟩) (fun H2 xs q hl => ⟨xs, q, by omega⟩)
    (fun i H2 x H3 xs y q => ⟨y.1, y.2 xs q⟩)
theorem wk_tup (s : Src K ρ H vs a v) {us : List Vl} (e : v = .tup us) : WkOk K ρ H ⟨vs, srcOf v vs, none⟩ (Itt K a) :=
  wk_at (fun i => i) (fun H2 xs => SqT K H2 a xs) (fun _ _ _ g m hg => s.nowT e g m hg) rfl (fun i hi => ⟨hi, rfl⟩) (fun i H2 xs x hi q hl hx => ⟨xs, x, q, hx⟩) (fun H2 xs q hl => ⟨xs, q, by omega⟩)
    (fun i H2 x H3 xs y q => ⟨y.1, y.2 xs q⟩)
theorem rev_get (vs : List Vl) (i : Nat) (h : i < vs.length) : vs.reverse[i]? = vs[vs.length - 1 - i]? := List.getElem?_reverse h
theorem wk_rev (s : Src K ρ H vs a v) {r : Nat} (e : v = .ref r) : WkOk K ρ H ⟨vs.reverse, srcOf v vs, none⟩ (Itv K a vs.length) :=
  wk_at (fun i => vs.length - 1 - i) (fun H2 xs => SqL K H2 a xs) (fun _ _ _ g m hg => s.nowL e g m hg) (by simp) (fun i hi => ⟨by omega, rev_get vs i hi⟩) (fun i H2 xs x hi q hl hx => ⟨hi, xs, x, q, hx⟩) (fun H2 xs q hl => Nat.le_refl _)
    (fun i H2 x H3 xs y q => ⟨y.1, y.2 xs q⟩)
theorem wk_revT (s : Src K ρ H vs a v) {us : List Vl} (e : v = .tup us) : WkOk K ρ H ⟨vs.reverse, srcOf v vs, none⟩ (RT.ItvT K a vs.length) :=
  wk_at (fun i => vs.length - 1 - i) (fun H2 xs => SqT K H2 a xs) (fun _ _ _ g m hg => s.nowT e g m hg) (by simp) (fun i hi => ⟨by omega, rev_get vs i hi⟩) (fun i H2 xs x hi q hl hx => ⟨hi, xs, x, q, hx⟩) (fun H2 xs q hl => Nat.le_refl _)
    (fun i H2 x H3 xs y q => ⟨y.1, y.2 xs q⟩)
theorem wk_range (lo : Int) (n : Nat) (k : Wk) (hk : k.items = (List.range n).map fun (i : Nat) => Vl.int (lo + i)) : WkOk K ρ H k (Itr lo n) := by
  have hl : k.items.length = n := by rw [hk]; simp
  refine ⟨fun i ρ2 H2 μ2 hi _ _ _ => ?_, fun _ _ _ _ _ _ => ?_, fun i ρ2 H2 μ2 x H3 v g m _ y hv => ?_⟩
  · show i < n
    omega
  · show n ≤ k.items.length
    omega
  · obtain ⟨rfl, rfl⟩ := y
    rw [hk, List.getElem?_map] at hv
    have hlt : i < n := by
      cases q : (List.range n)[i]? with
      | none => rw [q] at hv; cases hv
      | some j =>
        have := (List.getElem?_eq_some_iff.mp q).1
        simpa using this
    rw [List.getElem?_range hlt] at hv
    cases hv
    exact ⟨Grow.refl, m, .int _⟩
/-- a new pair at each turn -/
theorem pair_new {T : Addr} {x y : V} (m : MemOk K ρ H μ) (hT : H T = none) (r1 : Rep K ρ H v x) (r2 : Rep K ρ H w y) : Grow K ρ H ρ (upd H T (.tup [x, y])) ∧ MemOk K ρ (upd H T (.tup [x, y])) μ ∧ Rep K ρ (upd H T (.tup [x, y])) (.tup [v, w]) (.ref T) := by
  have g : Grow K ρ H ρ (upd H T (.tup [x, y])) := grow_upd (.inl hT)
  refine ⟨g, ⟨m.len, fun i o e => ?_, m.nd⟩, .tup (.inl (.inl upd_same)) (.cons (r1.grow g) (.cons (r2.grow g) .nil))⟩
  obtain ⟨c, e1, ok⟩ := m.at' i o e
  refine ⟨c, e1, ok.grow g (fun xs q => frzL_upd (.inl hT) q) fun mo u q mu => ?_⟩
  rw [upd_ne (ne_of_none q hT)]
  exact q
theorem zip_get {i : Nat} {u : Vl} (h : (List.zipWith (fun v w => Vl.tup [v, w]) vs ws)[i]? = some u) : ∃ v w, vs[i]? = some v ∧ ws[i]? = some w ∧ u = .tup [v, w] := by
  rw [List.getElem?_zipWith] at h
  split at h
  · rename_i e1 e2
    cases h
    exact ⟨_, _, e1, e2, rfl⟩
  · cases h
theorem gd_app {q : List (Nat × List Vl)} : ∀ {p : List (Nat × List Vl)}, gd μ (p ++ q) → gd μ p ∧ gd μ q
  | [], h => ⟨trivial, h⟩
  | x :: p, h => by
    obtain ⟨h1, h2⟩ := gd_app (p := p) h.2
    exact ⟨⟨h.1, h1⟩, h2⟩
theorem wk_zip (s : Src K ρ H vs a v) (s2 : Src K ρ H ws b w) {r r2 : Nat} (e : v = .ref r) (e2 : w = .ref r2) : WkOk K ρ H ⟨List.zipWith (fun v w => Vl.tup [v, w]) vs ws, srcOf v vs ++ srcOf w ws, none⟩ (Itz K a b) := by
  refine ⟨fun i ρ2 H2 μ2 hi g m hg => ?_, fun ρ2 H2 μ2 g m hg => ?_, fun i ρ2 H2 μ2 x H3 u g m hg y hv => ?_⟩
  · obtain ⟨g1, g2⟩ := gd_app (p := srcOf v vs) hg
    obtain ⟨xs, q1, r1⟩ := s.nowL e g m g1
    obtain ⟨ys, q2, r2⟩ := s2.nowL e2 g m g2
    have hi : i < min vs.length ws.length := by simpa using hi
    have h1 : i < xs.length := by rw [← r1.length]; omega
    have h2 : i < ys.length := by rw [← r2.length]; omega
    exact ⟨xs, ys, _, _, q1, q2, List.getElem?_eq_getElem h1, List.getElem?_eq_getElem h2⟩
  · obtain ⟨g1, g2⟩ := gd_app (p := srcOf v vs) hg
    obtain ⟨xs, q1, r1⟩ := s.nowL e g m g1
    obtain ⟨ys, q2, r2⟩ := s2.nowL e2 g m g2
    refine ⟨xs, ys, q1, q2, ?_⟩
    have := r1.length
    have := r2.length
    simp only [List.length_zipWith]
    omega
  · obtain ⟨g1, g2⟩ := gd_app (p := srcOf v vs) hg
    obtain ⟨xs, q1, r1⟩ := s.nowL e g m g1
    obtain ⟨ys, q2, r2⟩ := s2.nowL e2 g m g2
    obtain ⟨T, x1, y1, rfl, hT, rfl, f1, f2⟩ := y
    obtain ⟨v1, w1, h1, h2, rfl⟩ := zip_get hv
    obtain ⟨x2, e3, r3⟩ := r1.get h1
    obtain ⟨y2, e4, r4⟩ := r2.get h2
    rw [f1 xs q1] at e3; cases e3
    rw [f2 ys q2] at e4; cases e4
    exact pair_new m hT r3 r4
theorem wk_zipT (s : Src K ρ H vs a v) (s2 : Src K ρ H ws b w) {us us2 : List Vl} (e : v = .tup us) (e2 : w = .tup us2) : WkOk K ρ H ⟨List.zipWith (fun v w => Vl.tup [v, w]) vs ws, srcOf v vs ++ srcOf w ws, none⟩ (RZ.ItzT K a b) := by
  refine ⟨fun i ρ2 H2 μ2 hi g m hg => ?_, fun ρ2 H2 μ2 g m hg => ?_, fun i ρ2 H2 μ2 x H3 u g m hg y hv => ?_⟩
  · obtain ⟨g1, g2⟩ := gd_app (p := srcOf v vs) hg
    obtain ⟨xs, q1, r1⟩ := s.nowT e g m g1
    obtain ⟨ys, q2, r2⟩ := s2.nowT e2 g m g2
    have hi : i < min vs.length ws.length := by simpa using hi
    have h1 : i < xs.length := by rw [← r1.length]; omega
    have h2 : i < ys.length := by rw [← r2.length]; omega
    exact ⟨xs, ys, _, _, q1, q2, List.getElem?_eq_getElem h1, List.getElem?_eq_getElem h2⟩
  · obtain ⟨g1, g2⟩ := gd_app (p := srcOf v vs) hg
    obtain ⟨xs, q1, r1⟩ := s.nowT e g m g1
    obtain ⟨ys, q2, r2⟩ := s2.nowT e2 g m g2
    refine ⟨xs, ys, q1, q2, ?_⟩
    have := r1.length
    have := r2.length
    simp only [List.length_zipWith]
    omega
  · obtain ⟨g1, g2⟩ := gd_app (p := srcOf v vs) hg
    obtain ⟨xs, q1, r1⟩ := s.nowT e g m g1
    obtain ⟨ys, q2, r2⟩ := s2.nowT e2 g m g2
    obtain ⟨T, x1, y1, rfl, hT, rfl, f1, f2⟩ := y
    obtain ⟨v1, w1, h1, h2, rfl⟩ := zip_get hv
    obtain ⟨x2, e3, r3⟩ := r1.get h1
    obtain ⟨y2, e4, r4⟩ := r2.get h2
    rw [f1 xs q1] at e3; cases e3
    rw [f2 ys q2] at e4; cases e4
    exact pair_new m hT r3 r4
theorem wk_zipX (s : Src K ρ H vs a v) (s2 : Src K ρ H ws b w) {u1 u2 : Bool} (n1 : ∀ {ρ2 H2 μ2}, Grow K ρ H ρ2 H2 → MemOk K ρ2 H2 μ2 → gd μ2 (srcOf v vs) → ∃ xs, SqX u1 K H2 a xs ∧ Reps K ρ2 H2 vs xs) (n2 : ∀ {ρ2 H2 μ2}, Grow K ρ H ρ2 H2 → MemOk K ρ2 H2 μ2 → gd μ2 (srcOf w ws) → ∃ xs, SqX u2 K H2 b xs ∧ Reps K ρ2 H2 ws xs) : WkOk K ρ H ⟨List.zipWith (fun v w => Vl.tup [v, w]) vs ws, srcOf v vs ++ srcOf w ws, none⟩ (ItzX u1 u2 K a b) := by
  refine ⟨fun i ρ2 H2 μ2 hi g m hg => ?_, fun ρ2 H2 μ2 g m hg => ?_, fun i ρ2 H2 μ2 x H3 u g m hg y hv => ?_⟩
  · obtain ⟨g1, g2⟩ := gd_app (p := srcOf v vs) hg
    obtain ⟨xs, q1, r1⟩ := n1 g m g1
    obtain ⟨ys, q2, r2⟩ := n2 g m g2
    have hi : i < min vs.length ws.length := by simpa using hi
    have h1 : i < xs.length := by rw [← r1.length]; omega
    have h2 : i < ys.length := by rw [← r2.length]; omega
    exact ⟨xs, ys, _, _, q1, q2, List.getElem?_eq_getElem h1, List.getElem?_eq_getElem h2⟩
  · obtain ⟨g1, g2⟩ := gd_app (p := srcOf v vs) hg
    obtain ⟨xs, q1, r1⟩ := n1 g m g1
    obtain ⟨ys, q2, r2⟩ := n2 g m g2
    refine ⟨xs, ys, q1, q2, ?_⟩
    have := r1.length
    have := r2.length
    simp only [List.length_zipWith]
    omega
  · obtain ⟨g1, g2⟩ := gd_app (p := srcOf v vs) hg
    obtain ⟨xs, q1, r1⟩ := n1 g m g1
    obtain ⟨ys, q2, r2⟩ := n2 g m g2
    obtain ⟨T, x1, y1, rfl, hT, rfl, f1, f2⟩ := y
    obtain ⟨v1, w1, h1, h2, rfl⟩ := zip_get hv
    obtain ⟨x2, e3, r3⟩ := r1.get h1
    obtain ⟨y2, e4, r4⟩ := r2.get h2
    rw [f1 xs q1] at e3; cases e3
    rw [f2 ys q2] at e4; cases e4
    exact pair_new m hT r3 r4
theorem wk_dk {lk : Option Nat} {o : Obj} {kvs : List (NestedKey × Vl)} {xs : List (NestedKey × Addr × V)} (h : H a = some (.frz o (.ext (NdAt a xs)))) (r : NRel K ρ H kvs xs) : WkOk K ρ H ⟨kvs.map fun p => keyVl p.1, [], lk⟩ (Itdk a o xs) := by
  have hl := Paired.length r
  refine ⟨fun i ρ2 H2 μ2 hi g m hg => ⟨g.frz _ _ _ h, ?_⟩, fun ρ2 H2 μ2 g m hg => ⟨g.frz _ _ _ h, ?_⟩, fun i ρ2 H2 μ2 x H3 v g m hg y hv => ?_⟩
  · have hi : i < kvs.length := by simpa using hi
    omega
  · simp only [List.length_map]
    omega
  · obtain ⟨p, e, rfl, rfl⟩ := y
    obtain ⟨kv, e1, r1, r2, r3⟩ := L2.DX.pget r e
    rw [List.getElem?_map, e1] at hv
    cases hv
    exact ⟨Grow.refl, m, r2.1.grow g⟩
theorem wk_di {lk : Option Nat} {o : Obj} {kvs : List (NestedKey × Vl)} {xs : List (NestedKey × Addr × V)} (h : H a = some (.frz o (.ext (NdAt a xs)))) (r : NRel K ρ H kvs xs) : WkOk K ρ H ⟨kvs.map itemV, [], lk⟩ (Itdi a o xs) := by
  have hl := Paired.length r
  refine ⟨fun i ρ2 H2 μ2 hi g m hg => ⟨g.frz _ _ _ h, ?_⟩, fun ρ2 H2 μ2 g m hg => ⟨g.frz _ _ _ h, ?_⟩, fun i ρ2 H2 μ2 x H3 v g m hg y hv => ?_⟩
  · have hi : i < kvs.length := by simpa using hi
    omega
  · simp only [List.length_map]
    omega
  · obtain ⟨T, p, e, rfl, hT, rfl⟩ := y
    obtain ⟨kv, e1, r1, r2, r3⟩ := L2.DX.pget r e
    rw [List.getElem?_map, e1] at hv
    cases hv
    exact pair_new m hT (r2.1.grow g) (r3.grow g)
theorem drel_get {kvs : List (Key × Vl)} {ks : List (Key × V)} (r : DRel K ρ H kvs ks) {i : Nat} {k : Key} {x : V} (e : ks[i]? = some (k, x)) : ∃ v, kvs[i]? = some (k, v) ∧ Rep K ρ H v x := by
  unfold DRel at r
  induction r generalizing i with
  | nil => cases e
  | @cons p q ps qs h t ih =>
    cases i with
    | zero => cases e; obtain ⟨a, b⟩ := p; cases h.1; exact ⟨_, rfl, h.2⟩
    | succ i => exact ih (by simpa using e)
theorem rep_key (k : Key) : Rep K ρ H (keyV k) (kV k) := by
  cases k with
  | inl i => exact .int i
  | inr s => exact .str s
theorem wk_dkK {lk : Option Nat} {o : Obj} {kvs : List (Key × Vl)} {ks : List (Key × V)} (h : H a = some (.frz o (.dK ks))) (r : DRel K ρ H kvs ks) : WkOk K ρ H ⟨kvs.map fun p => keyV p.1, [], lk⟩ (Itk a o ks) := by
  have hl := r.length
  refine ⟨fun i ρ2 H2 μ2 hi g m hg => ⟨g.frz _ _ _ h, ?_⟩, fun ρ2 H2 μ2 g m hg => ⟨g.frz _ _ _ h, ?_⟩, fun i ρ2 H2 μ2 x H3 v g m hg y hv => ?_⟩
  · have hi : i < kvs.length := by simpa using hi
    omega
  · simp only [List.length_map]
    omega
  · obtain ⟨rfl, k, x', e, rfl⟩ := y
    obtain ⟨v', e1, _⟩ := drel_get r e
    rw [List.getElem?_map, e1] at hv
    cases hv
    exact ⟨Grow.refl, m, rep_key k⟩
theorem wk_diK {lk : Option Nat} {o : Obj} {kvs : List (Key × Vl)} {ks : List (Key × V)} (h : H a = some (.frz o (.dK ks))) (r : DRel K ρ H kvs ks) : WkOk K ρ H ⟨kvs.map fun p => Vl.tup [keyV p.1, p.2], [], lk⟩ (Iti a o ks) := by
  have hl := r.length
  refine ⟨fun i ρ2 H2 μ2 hi g m hg => ⟨g.frz _ _ _ h, ?_⟩, fun ρ2 H2 μ2 g m hg => ⟨g.frz _ _ _ h, ?_⟩, fun i ρ2 H2 μ2 x H3 v g m hg y hv => ?_⟩
  · have hi : i < kvs.length := by simpa using hi
    omega
  · simp only [List.length_map]
    omega
  · obtain ⟨T, k, x', e, rfl, hT, rfl⟩ := y
    obtain ⟨v', e1, r1⟩ := drel_get r e
    rw [List.getElem?_map, e1] at hv
    cases hv
    exact pair_new m hT (rep_key k) (r1.grow g)
theorem enum_get {i : Nat} {u : Vl} (h : (vs.zipIdx.map fun p => Vl.tup [.int p.2, p.1])[i]? = some u) : ∃ v, vs[i]? = some v ∧ u = .tup [.int (i : Nat), v] := by
  rw [List.getElem?_map, List.getElem?_zipIdx] at h
  cases q : vs[i]? with
  | none => rw [q] at h; cases h
  | some v =>
    rw [q] at h
    simp at h
    exact ⟨v, rfl, h.symm⟩
theorem wk_enum (s : Src K ρ H vs a v) {r : Nat} (e : v = .ref r) : WkOk K ρ H ⟨vs.zipIdx.map fun p => Vl.tup [.int p.2, p.1], srcOf v vs, none⟩ (Ite K a) := by
  refine ⟨fun i ρ2 H2 μ2 hi g m hg => ?_, fun ρ2 H2 μ2 g m hg => ?_, fun i ρ2 H2 μ2 x H3 u g m hg y hv => ?_⟩
  · obtain ⟨xs, q1, r1⟩ := s.nowL e g m hg
    have hi : i < vs.length := by simpa using hi
    have h1 : i < xs.length := by rw [← r1.length]; exact hi
    exact ⟨xs, _, q1, List.getElem?_eq_getElem h1⟩
  · obtain ⟨xs, q1, r1⟩ := s.nowL e g m hg
    refine ⟨xs, q1, ?_⟩
    have := r1.length
    simp
    omega
  · obtain ⟨xs, q1, r1⟩ := s.nowL e g m hg
    obtain ⟨T, x1, rfl, hT, rfl, f1⟩ := y
    obtain ⟨v1, h1, rfl⟩ := enum_get hv
    obtain ⟨x2, e3, r3⟩ := r1.get h1
    rw [f1 xs q1] at e3; cases e3
    exact pair_new m hT (.int _) r3
theorem wk_enumT (s : Src K ρ H vs a v) {us : List Vl} (e : v = .tup us) : WkOk K ρ H ⟨vs.zipIdx.map fun p => Vl.tup [.int p.2, p.1], srcOf v vs, none⟩ (IteT K a) := by
  refine ⟨fun i ρ2 H2 μ2 hi g m hg => ?_, fun ρ2 H2 μ2 g m hg => ?_, fun i ρ2 H2 μ2 x H3 u g m hg y hv => ?_⟩
  · obtain ⟨xs, q1, r1⟩ := s.nowT e g m hg
    have hi : i < vs.length := by simpa using hi
    have h1 : i < xs.length := by rw [← r1.length]; exact hi
    exact ⟨xs, _, q1, List.getElem?_eq_getElem h1⟩
  · obtain ⟨xs, q1, r1⟩ := s.nowT e g m hg
    refine ⟨xs, q1, ?_⟩
    have := r1.length
    simp
    omega
  · obtain ⟨xs, q1, r1⟩ := s.nowT e g m hg
    obtain ⟨T, x1, rfl, hT, rfl, f1⟩ := y
    obtain ⟨v1, h1, rfl⟩ := enum_get hv
    obtain ⟨x2, e3, r3⟩ := r1.get h1
    rw [f1 xs q1] at e3; cases e3
    exact pair_new m hT (.int _) r3
end
end PV

/-! zip of three lists -/
namespace PV
open PySem PySem.Spec PyProof.Rows L2
theorem draws_k {prog : Program} {w : World} {A : Around} (hh : A.handled = none) (u : Bool) (it l : Addr) (hne : l ≠ it) (items : Array Value) :
    Draws prog w A it [it, l] items.size (fun i v => items[i]? = some v) (fun i h => itK u h it l i ∧ sqK u h l items) := by
  cases u
  · exact Draws.list hh it l hne items
  · exact Draws.tuple hh it l hne items
theorem begins_k (u : Bool) (l : Addr) (items : Array Value) : Begins (.ref l) (itO u l) fun h => sqK u h l items := by
  cases u
  · exact begins_list l items
  · exact begins_tuple l items
theorem sqK.lt {u : Bool} {h : Heap} {l : Addr} {items : Array Value} (x : sqK u h l items) : l < h.objs.size := by
  cases u
  · obtain ⟨o, e, _⟩ := x
    exact Heap.lt_size e
  · obtain ⟨o, e, _⟩ := x
    exact Heap.lt_size e
def Itz3 (u v t : Bool) (K : PySem.W.Frag) (a b c : Addr) : It :=
  ⟨fun i H => ∃ (xs ys zs : List V) (x y z : V), SqX u K H a xs ∧ SqX v K H b ys ∧ SqX t K H c zs ∧ xs[i]? = some x ∧ ys[i]? = some y ∧ zs[i]? = some z,
    fun i H w H' => ∃ T x y z, w = .ref T ∧ H T = none ∧ H' = upd H T (.tup [x, y, z]) ∧ (∀ xs, SqX u K H a xs → xs[i]? = some x) ∧ (∀ ys, SqX v K H b ys → ys[i]? = some y) ∧ ∀ zs, SqX t K H c zs → zs[i]? = some z,
    fun i H => ∃ xs ys zs : List V, SqX u K H a xs ∧ SqX v K H b ys ∧ SqX t K H c zs ∧ i ≤ xs.length ∧ i ≤ ys.length ∧ i ≤ zs.length ∧ (i = xs.length ∨ i = ys.length ∨ i = zs.length)⟩
theorem turn_zip3 {P : Program} {w : World} {K : PySem.W.Frag} {elts : List Expr} {kk : Nat} {tpos : Pos} {u v t : Bool} {a b c : Addr} (N : Addr) (ha : a < N) (hb : b < N) (hc3 : c < N) :
    Turn P w K (.Tuple elts kk tpos) (Itz3 u v t K a b c) [N + 5, N + 3, N + 4, N, N + 1, N + 2] (N + 5)
      (fun i h => IsZip h (N + 5) (N + 3) (N + 4) .none ∧ IsTupOf3 h (N + 3) (.ref N) (.ref (N + 1)) (.ref (N + 2)) ∧ (∃ x y z, IsTupOf3 h (N + 4) x y z) ∧ itK u h N a i ∧ itK v h (N + 1) b i ∧ itK t h (N + 2) c i) := by
  have hS : ZipSep3 (N + 5) (N + 3) (N + 4) N (N + 1) (N + 2) [N, a] [N + 1, b] [N + 2, c] := zip_sep3 (N := N) (by simpa using ha) (by simpa using hb) (by simpa using hc3)
  have six : ∀ d, d ∈ [N + 5, N + 3, N + 4, N, N + 1, N + 2] → d = N + 5 ∨ d = N + 3 ∨ d = N + 4 ∨ d = N ∨ d = N + 1 ∨ d = N + 2 := fun d h => by simpa using h
  refine ⟨by simp, ?_, ?_, ?_, ?_, ?_⟩
  · intro i h st d hd
    obtain ⟨hz, hTI, ⟨x, y, z, hTO⟩, h1, h2, h3⟩ := st
    rcases six d hd with q | q | q | q | q | q
    · rw [q]; exact ⟨_, hz, fun v q => nomatch q⟩
    · rw [q]; exact ⟨_, hTI, fun v q => nomatch q⟩
    · rw [q]; exact ⟨_, hTO, fun v q => nomatch q⟩
    · rw [q]; exact h1.obj
    · rw [q]; exact h2.obj
    · rw [q]; exact h3.obj
  · intro i h h' st k
    obtain ⟨hz, hTI, ⟨x, y, z, hTO⟩, h1, h2, h3⟩ := st
    exact ⟨k _ (by simp) _ hz, k _ (by simp) _ hTI, ⟨x, y, z, k _ (by simp) _ hTO⟩, h1.goes fun o q => k _ (by simp) o q, h2.goes fun o q => k _ (by simp) o q, h3.goes fun o q => k _ (by simp) o q⟩
  · intro X hP hw hK hc i pins s σ H E I hf st hg
    subst hP hw hK
    obtain ⟨hz, hTI, ⟨x0, y0, z0, hTO⟩, h1, h2, h3⟩ := st
    obtain ⟨xs, ys, zs, x, y, z, hqx, hqy, hqz, hx, hy, hz3⟩ := hg
    obtain ⟨its, rv, p⟩ := SqX.now I hqx
    obtain ⟨its2, rv2, p2⟩ := SqX.now I hqy
    obtain ⟨its3, rv3, p3⟩ := SqX.now I hqz
    obtain ⟨c1, hc1, rc1⟩ := rv.get hx
    obtain ⟨c2, hc2, rc2⟩ := rv2.get hy
    obtain ⟨c3, hc3', rc3⟩ := rv3.get hz3
    have lt1 : i < its.toArray.size := by have := (List.getElem?_eq_some_iff.mp hc1).1; simpa using this
    have lt2 : i < its2.toArray.size := by have := (List.getElem?_eq_some_iff.mp hc2).1; simpa using this
    have lt3 : i < its3.toArray.size := by have := (List.getElem?_eq_some_iff.mp hc3').1; simpa using this
    have hzl : N + 5 < s.heap.objs.size := Heap.lt_size hz
    have D1 := draws_k (prog := X.prog) (w := X.w) (A := X.A.in1) (I.ok.hd hc) u N a (Nat.ne_of_lt ha) its.toArray
    have D2 := draws_k (prog := X.prog) (w := X.w) (A := X.A.in1) (I.ok.hd hc) v (N + 1) b (Nat.ne_of_lt (Nat.lt_succ_of_lt hb)) its2.toArray
    have D3 := draws_k (prog := X.prog) (w := X.w) (A := X.A.in1) (I.ok.hd hc) t (N + 2) c (Nat.ne_of_lt (Nat.lt_succ_of_lt (Nat.lt_succ_of_lt hc3))) its3.toArray
    refine wpAny_pyNext_zipD3_item hS D1 D2 D3 hz hTI hTO ⟨h1, p⟩ ⟨h2, p2⟩ ⟨h3, p3⟩ lt1 lt2 lt3 fun y1 y2 y3 h' tk e1 e2 e3 z' TO' s1 s2 s3 hT hsz hk => ?_
    have q1 : y1 = c1 := by
      have e : its.toArray[i]? = some y1 := e1
      rw [List.getElem?_toArray, hc1] at e
      exact (Option.some.inj e).symm
    have q2 : y2 = c2 := by
      have e : its2.toArray[i]? = some y2 := e2
      rw [List.getElem?_toArray, hc2] at e
      exact (Option.some.inj e).symm
    have q3 : y3 = c3 := by
      have e : its3.toArray[i]? = some y3 := e3
      rw [List.getElem?_toArray, hc3'] at e
      exact (Option.some.inj e).symm
    subst q1 q2 q3
    refine ⟨_, rfl, wpAny_letOwnedTupleGo_zip (s := { s with heap := h', toks := tk }) z' fun h'' z'' sb => ?_⟩
    have hT2 : h''.get? s.heap.objs.size = some { cls := .type "tuple", data := .seq #[y1, y2, y3] } := (sb.2 _ (Nat.ne_of_gt hzl)).trans hT
    have new : ObjOk X.prog X.w (upd H s.heap.objs.size (.tup [x, y, z])) h'' s.heap.objs.size (.tup [x, y, z]) :=
      ⟨by show 3 ≤ sizeLine; decide, [y1, y2, y3], .cons rc1 (.cons rc2 (.cons rc3 .nil)), ⟨_, hT2, rfl, _, rfl⟩⟩
    have I1 : Inv X pins σ (upd H s.heap.objs.size (.tup [x, y, z])) { s with heap := h'', toks := tk } :=
      I.turnedNew (ch := [N + 5, N + 3, N + 4, N, N + 1, N + 2]) (fun d o hb q => (sb.2 d (fun q' => hb (by simp [q']))).trans (hk d o (fun q' => hb (by simp [q'])) (fun q' => hb (by simp [q'])) (fun q' => hb (by simp [q'])) (fun q' => hb (by simp [q'])) (fun q' => hb (by simp [q'])) q)) hf (Nat.le_refl _) new
    refine ⟨.ref s.heap.objs.size, _, I1, rfl, ⟨_, x, y, z, rfl, I.hok.fresh (Nat.le_refl _), rfl, fun l hl => by rw [SqX.one I hl hqx]; exact hx, fun l hl => by rw [SqX.one I hl hqy]; exact hy, fun l hl => by rw [SqX.one I hl hqz]; exact hz3⟩, ⟨z'', ?_, ⟨y1, y2, y3, ?_⟩, ?_, ?_, ?_⟩, fun d hcm => ?_⟩
    · exact (sb.2 _ hS.TIz).trans (hk _ _ hS.TIz hS.TITO hS.TIi1 hS.TIi2 hS.TIi3 hTI)
    · exact (sb.2 _ hS.TOz).trans TO'
    · exact s1.1.goes fun o q => (sb.2 _ hS.zi1.symm).trans q
    · exact s2.1.goes fun o q => (sb.2 _ hS.zi2.symm).trans q
    · exact s3.1.goes fun o q => (sb.2 _ hS.zi3.symm).trans q
    · have hlt : d < s.heap.objs.size := by
        have hz5 : d ≤ N + 5 := by rcases six d hcm with q | q | q | q | q | q <;> (rw [q]; first | exact Nat.le_refl _ | exact Nat.le_add_right _ _ | exact Nat.add_le_add_left (by decide) _)
        exact Nat.lt_of_le_of_lt hz5 hzl
      rw [upd_ne (Nat.ne_of_lt hlt)]
      exact (hf d hcm).1
  · intro X hP hw hK hc i pins s σ H E I hf st hg
    subst hP hw hK
    obtain ⟨hz, hTI, ⟨x0, y0, z0, hTO⟩, h1, h2, h3⟩ := st
    obtain ⟨xs, ys, zs, hqx, hqy, hqz, l1, l2, l3, hend⟩ := hg
    obtain ⟨its, rv, p⟩ := SqX.now I hqx
    obtain ⟨its2, rv2, p2⟩ := SqX.now I hqy
    obtain ⟨its3, rv3, p3⟩ := SqX.now I hqz
    rw [rv.length] at l1 hend
    rw [rv2.length] at l2 hend
    rw [rv3.length] at l3 hend
    have D1 := draws_k (prog := X.prog) (w := X.w) (A := X.A.in1) (I.ok.hd hc) u N a (Nat.ne_of_lt ha) its.toArray
    have D2 := draws_k (prog := X.prog) (w := X.w) (A := X.A.in1) (I.ok.hd hc) v (N + 1) b (Nat.ne_of_lt (Nat.lt_succ_of_lt hb)) its2.toArray
    have D3 := draws_k (prog := X.prog) (w := X.w) (A := X.A.in1) (I.ok.hd hc) t (N + 2) c (Nat.ne_of_lt (Nat.lt_succ_of_lt (Nat.lt_succ_of_lt hc3))) its3.toArray
    exact wpAny_pyNext_zipD3_end hS D1 D2 D3 hz hTI hTO ⟨h1, p⟩ ⟨h2, p2⟩ ⟨h3, p3⟩ (by simpa using l1) (by simpa using l2) (by simpa using l3) (by simpa using hend) fun h' tk hk => ⟨rfl, I.turnedL (ch := [N + 5, N + 3, N + 4, N, N + 1, N + 2]) (fun d o hb q =>
      hk d o (fun q' => hb (by simp [q'])) (fun q' => hb (by simp [q'])) (fun q' => hb (by simp [q'])) (fun q' => hb (by simp [q'])) (fun q' => hb (by simp [q'])) q) hf⟩
  · exact fun A i s Q E st h => wpAny_pyIter_zip st.1 h
theorem pi_zip3 {X : Cx} {e e2 e3 : Expr} {ta : TA} {p pos tpos : Pos} {elts : List Expr} {kk : Nat} (hg : Gl X "zip") (hm : X.mg "zip" = none) (ha : PA X [e, e2, e3] ta)
    (hs : starEach [e, e2, e3] X.env = (false, eval e X.env) :: starEach [e2, e3] X.env := by rfl) (hpl : (backTo pos (starEach [e2, e3] X.env)).any (·.1) = false := by rfl) :
    PI X (.Tuple elts kk tpos) (.Call (.Name "zip" p) [e, e2, e3] [] pos) (fun σ H R => ta σ H fun vs H1 => ∃ u v t a b c xs ys zs, vs = [.ref a, .ref b, .ref c] ∧ SqX u X.K H1 a xs ∧ SqX v X.K H1 b ys ∧ SqX t X.K H1 c zs ∧ R (Itz3 u v t X.K a b c) H1) := by
  refine ⟨fun pins s σ H R I h => ?_⟩
  refine Call_ (ld_blt I hg hm PyProof.Rows.boot_zip (PyProof.Rows.callWith_type1 (thn (ha.run pos pins s σ H _ I h) fun us s1 ⟨vs, H1, I1, r1, q1⟩ => ?_) hs hpl))
  obtain ⟨u, v, t, a, b, c, xs, ys, zs, ex, hqx, hqy, hqz, q⟩ := q1
  subst ex
  cases r1 with
  | cons r rr =>
    cases rr with
    | cons r' rr =>
      cases rr with
      | cons r'' rr =>
        cases rr
        cases r
        cases r'
        cases r''
        obtain ⟨its, rv, p1⟩ := SqX.now I1 hqx
        obtain ⟨its2, rv2, p2⟩ := SqX.now I1 hqy
        obtain ⟨its3, rv3, p3⟩ := SqX.now I1 hqz
        have fresh6 : ∀ d, d ∈ [s1.heap.objs.size + 5, s1.heap.objs.size + 3, s1.heap.objs.size + 4, s1.heap.objs.size, s1.heap.objs.size + 1, s1.heap.objs.size + 2] → FpOk X pins H1 d := fun d hcm => by
          have e' : d = s1.heap.objs.size + 5 ∨ d = s1.heap.objs.size + 3 ∨ d = s1.heap.objs.size + 4 ∨ d = s1.heap.objs.size ∨ d = s1.heap.objs.size + 1 ∨ d = s1.heap.objs.size + 2 := by simpa using hcm
          have hle : s1.heap.objs.size ≤ d := by
            rcases e' with z | z | z | z | z | z <;> (rw [z]; first | exact Nat.le_refl _ | exact Nat.le_add_right _ _)
          exact I1.fpOk hle (I1.hok.fresh hle)
        refine zip_begins3 (begins_k u a its.toArray) (begins_k v b its2.toArray) (begins_k t c its3.toArray) p1 p2 p3 fun h' hz hTI hTO g1 g2 g3 hsz hk => wpAny_pyIter_zip hz ?_
        have I2 : Inv X pins σ H1 { s1 with heap := h' } := I1.kept (t' := s1.toks) hk
        exact ⟨s1.heap.objs.size + 5, [s1.heap.objs.size + 5, s1.heap.objs.size + 3, s1.heap.objs.size + 4, s1.heap.objs.size, s1.heap.objs.size + 1, s1.heap.objs.size + 2], _, _, H1, rfl, I2, turn_zip3 s1.heap.objs.size p1.lt p2.lt p3.lt, ⟨hz, hTI, ⟨_, _, _, hTO⟩, itK_new u g1, itK_new v g2, itK_new t g3⟩, fresh6, q⟩
section
variable {K : PySem.W.Frag} {ρ ρ2 : List Addr} {H H2 : Hp} {μ μ2 : Mem} {a b c : Addr} {vs ws us : List Vl} {v w u : Vl}
theorem triple_new {T : Addr} {x y z : V} (m : MemOk K ρ H μ) (hT : H T = none) (r1 : Rep K ρ H v x) (r2 : Rep K ρ H w y) (r3 : Rep K ρ H u z) : Grow K ρ H ρ (upd H T (.tup [x, y, z])) ∧ MemOk K ρ (upd H T (.tup [x, y, z])) μ ∧ Rep K ρ (upd H T (.tup [x, y, z])) (.tup [v, w, u]) (.ref T) := by
  have g : Grow K ρ H ρ (upd H T (.tup [x, y, z])) := grow_upd (.inl hT)
  refine ⟨g, ⟨m.len, fun i o e => ?_, m.nd⟩, .tup (.inl (.inl upd_same)) (.cons (r1.grow g) (.cons (r2.grow g) (.cons (r3.grow g) .nil)))⟩
  obtain ⟨c, e1, ok⟩ := m.at' i o e
  refine ⟨c, e1, ok.grow g (fun xs q => frzL_upd (.inl hT) q) fun mo u q mu => ?_⟩
  rw [upd_ne (ne_of_none q hT)]
  exact q
theorem zip3_get {i : Nat} {t : Vl} (h : (zip3V vs ws us)[i]? = some t) : ∃ v w u, vs[i]? = some v ∧ ws[i]? = some w ∧ us[i]? = some u ∧ t = .tup [v, w, u] := by
  unfold zip3V at h
  rw [List.getElem?_zipWith] at h
  split at h
  · rename_i e1 e2
    rw [List.getElem?_zip_eq_some] at e2
    cases h
    exact ⟨_, _, _, e1, e2.1, e2.2, rfl⟩
  · cases h
theorem zip3_len (vs ws us : List Vl) : (zip3V vs ws us).length = min vs.length (min ws.length us.length) := by
  unfold zip3V
  rw [List.length_zipWith, List.length_zip]
theorem wk_zip3 {u1 u2 u3 : Bool} (n1 : ∀ {ρ2 H2 μ2}, Grow K ρ H ρ2 H2 → MemOk K ρ2 H2 μ2 → gd μ2 (srcOf v vs) → ∃ xs, SqX u1 K H2 a xs ∧ Reps K ρ2 H2 vs xs) (n2 : ∀ {ρ2 H2 μ2}, Grow K ρ H ρ2 H2 → MemOk K ρ2 H2 μ2 → gd μ2 (srcOf w ws) → ∃ xs, SqX u2 K H2 b xs ∧ Reps K ρ2 H2 ws xs)
    (n3 : ∀ {ρ2 H2 μ2}, Grow K ρ H ρ2 H2 → MemOk K ρ2 H2 μ2 → gd μ2 (srcOf u us) → ∃ xs, SqX u3 K H2 c xs ∧ Reps K ρ2 H2 us xs) :
    WkOk K ρ H ⟨zip3V vs ws us, srcOf v vs ++ srcOf w ws ++ srcOf u us, none⟩ (Itz3 u1 u2 u3 K a b c) := by
  refine ⟨fun i ρ2 H2 μ2 hi g m hg => ?_, fun ρ2 H2 μ2 g m hg => ?_, fun i ρ2 H2 μ2 x H3 t g m hg y hv => ?_⟩
  · obtain ⟨g12, g3⟩ := gd_app (p := srcOf v vs ++ srcOf w ws) hg
    obtain ⟨g1, g2⟩ := gd_app (p := srcOf v vs) g12
    obtain ⟨xs, q1, r1⟩ := n1 g m g1
    obtain ⟨ys, q2, r2⟩ := n2 g m g2
    obtain ⟨zs, q3, r3⟩ := n3 g m g3
    have hi : i < (zip3V vs ws us).length := hi
    rw [zip3_len] at hi
    have h1 : i < xs.length := by rw [← r1.length]; omega
    have h2 : i < ys.length := by rw [← r2.length]; omega
    have h3 : i < zs.length := by rw [← r3.length]; omega
    exact ⟨xs, ys, zs, _, _, _, q1, q2, q3, List.getElem?_eq_getElem h1, List.getElem?_eq_getElem h2, List.getElem?_eq_getElem h3⟩
  · obtain ⟨g12, g3⟩ := gd_app (p := srcOf v vs ++ srcOf w ws) hg
    obtain ⟨g1, g2⟩ := gd_app (p := srcOf v vs) g12
    obtain ⟨xs, q1, r1⟩ := n1 g m g1
    obtain ⟨ys, q2, r2⟩ := n2 g m g2
    obtain ⟨zs, q3, r3⟩ := n3 g m g3
    have l1 := r1.length
    have l2 := r2.length
    have l3 := r3.length
    refine ⟨xs, ys, zs, q1, q2, q3, ?_, ?_, ?_, ?_⟩
    all_goals
      show _
      simp only [zip3_len]
      omega
  · obtain ⟨g12, g3⟩ := gd_app (p := srcOf v vs ++ srcOf w ws) hg
    obtain ⟨g1, g2⟩ := gd_app (p := srcOf v vs) g12
    obtain ⟨xs, q1, r1⟩ := n1 g m g1
    obtain ⟨ys, q2, r2⟩ := n2 g m g2
    obtain ⟨zs, q3, r3⟩ := n3 g m g3
    obtain ⟨T, x1, y1, z1, rfl, hT, rfl, f1, f2, f3⟩ := y
    obtain ⟨v1, w1, u1, h1, h2, h3, rfl⟩ := zip3_get hv
    obtain ⟨x2, e4, r4⟩ := r1.get h1
    obtain ⟨y2, e5, r5⟩ := r2.get h2
    obtain ⟨z2, e6, r6⟩ := r3.get h3
    rw [f1 xs q1] at e4; cases e4
    rw [f2 ys q2] at e5; cases e5
    rw [f3 zs q3] at e6; cases e6
    exact triple_new m hT r4 r5 r6
end
end PV

/-! expressions run as the small language says -/
namespace PV
open PySem PySem.Spec PyProof.Rows L2

section
variable {X : Cx} {K : PySem.W.Frag}
/-! ### targets -/
/-- what of the slots has changed: any, or those of own alone -/
def wr (own : Option (List Nat)) (σ2 σ : L2.St) : Prop := match own with
  | none => True
  | some o => wipe σ2 o = wipe σ o
theorem wr_refl {own : Option (List Nat)} {σ : L2.St} : wr own σ σ := by
  cases own with
  | none => trivial
  | some o => rfl
theorem wr_trans {own : Option (List Nat)} {σ σ2 σ3 : L2.St} (a : wr own σ2 σ) (b : wr own σ3 σ2) : wr own σ3 σ := by
  cases own with
  | none => trivial
  | some o => exact Eq.trans b a
def LG (K : PySem.W.Frag) (own : Option (List Nat)) (t : Vl → Sg → (Sg → Prop) → Prop) : TG := fun x σ H Q => ∃ v σv μ ρ, SgOk K ρ H σv σ ∧ MemOk K ρ H μ ∧ Rep K ρ H v x ∧ t v σv (fun σv2 => ∀ σ2, SgOk K ρ H σv2 σ2 → wr own σ2 σ → Q σ2 H)
def LGs (K : PySem.W.Frag) (own : Option (List Nat)) (t : List Vl → Sg → (Sg → Prop) → Prop) : TGs := fun xs σ H Q => ∃ vs σv μ ρ, SgOk K ρ H σv σ ∧ MemOk K ρ H μ ∧ Reps K ρ H vs xs ∧ t vs σv (fun σv2 => ∀ σ2, SgOk K ρ H σv2 σ2 → wr own σ2 σ → Q σ2 H)
theorem wipe_set {x : Option V} : ∀ {own : List Nat} {i : Nat} {σ : L2.St}, i ∈ own → wipe (σ.set i x) own = wipe σ own
  | [], _, _, h => by cases h
  | j :: own, i, σ, h => by
    show (wipe (σ.set i x) own).set j none = (wipe σ own).set j none
    by_cases e : i ∈ own
    · rw [wipe_set e]
    · have e2 : i = j := by
        rcases List.mem_cons.mp h with h | h
        · exact h
        · exact absurd h e
      subst e2
      have key : ∀ (own : List Nat) (σ : L2.St), i ∉ own → wipe (σ.set i x) own = (wipe σ own).set i x := by
        intro own
        induction own with
        | nil => intro σ _; rfl
        | cons k own ih =>
          intro σ hk
          have h1 : i ≠ k := fun z => hk (by simp [z])
          have h2 : i ∉ own := fun z => hk (by simp [z])
          show (wipe (σ.set i x) own).set k none = ((wipe σ own).set k none).set i x
          rw [ih σ h2, List.set_comm _ _ h1]
      rw [key own σ e, List.set_set]
theorem each_len : ∀ {es : List Expr} {env : Env}, (assignEach es env).length = es.length
  | [], _ => rfl
  | e :: es, env => by
    have := each_len (es := es) (env := env)
    cases e <;> simp [assignEach, this]
theorem each_none : ∀ {es : List Expr} {env : Env}, es.all notStar = true → (assignEach es env).findIdx? (·.1) = none
  | [], _, _ => rfl
  | e :: es, env, h => by
    rw [List.all_cons, Bool.and_eq_true] at h
    have := each_none (es := es) (env := env) h.2
    cases e <;> first | (simp [assignEach, List.findIdx?_cons, this]; done) | cases h.1
theorem each_cons {e : Expr} {es : List Expr} {env : Env} (h : notStar e = true) : (assignEach (e :: es) env).map (·.2) = assign e env :: (assignEach es env).map (·.2) := by
  cases e <;> first | rfl | cases h
theorem tgs_star {N : List Str} {lc : Str → Bool} : ∀ {ts : Tgs} {es : List Expr}, chkTgs N lc ts es = true → es.all notStar = true
  | .nil, es, h => by
    cases es with
    | nil => rfl
    | cons e es => cases h
  | .cons t ts, es, h => by
    cases es with
    | nil => cases h
    | cons e es =>
      simp only [chkTgs, Bool.and_eq_true] at h
      rw [List.all_cons, Bool.and_eq_true]
      exact ⟨h.1.1, tgs_star h.2⟩
theorem asgsW_len : ∀ {ts : Tgs} {vs : List Vl} {σ : Sg} {Q : Sg → Prop} {N : List Str} {lc : Str → Bool} {es : List Expr}, asgsW ts vs σ Q → chkTgs N lc ts es = true → vs.length = es.length
  | .nil, vs, σ, Q, N, lc, es, h, c => by
    cases vs with
    | nil =>
      cases es with
      | nil => rfl
      | cons e es => cases c
    | cons v vs => exact False.elim h
  | .cons t ts, vs, σ, Q, N, lc, es, h, c => by
    cases vs with
    | nil => exact False.elim h
    | cons v vs =>
      cases es with
      | nil => cases c
      | cons e es =>
        simp only [chkTgs, Bool.and_eq_true] at c
        have key : ∀ {t : Tg} {v : Vl} {σ : Sg} {Q : Sg → Prop}, asgW t v σ Q → ∃ σ2, Q σ2 := by
          intro t v σ Q h
          exact (asgW_ex t v σ Q h)
        obtain ⟨σ2, h2⟩ := key h
        simp [asgsW_len h2 c.2]
where
  asgW_ex : ∀ (t : Tg) (v : Vl) (σ : Sg) (Q : Sg → Prop), asgW t v σ Q → ∃ σ2, Q σ2
  | .nm i, v, σ, Q, h => ⟨_, h⟩
  | .tp ts, v, σ, Q, h => by
    cases v with
    | tup vs => exact asgsW_ex ts vs σ Q h
    | _ => exact False.elim h
  asgsW_ex : ∀ (ts : Tgs) (vs : List Vl) (σ : Sg) (Q : Sg → Prop), asgsW ts vs σ Q → ∃ σ2, Q σ2
  | .nil, vs, σ, Q, h => by
    cases vs with
    | nil => exact ⟨_, h⟩
    | cons v r => exact False.elim h
  | .cons t ts, vs, σ, Q, h => by
    cases vs with
    | nil => exact False.elim h
    | cons v r =>
      obtain ⟨σ2, h2⟩ := asgW_ex t v σ _ h
      exact asgsW_ex ts r σ2 Q h2

def inOwn (own : Option (List Nat)) (t : Tg) : Prop := match own with
  | none => True
  | some o => tgIn o t = true
def insOwn (own : Option (List Nat)) (t : Tgs) : Prop := match own with
  | none => True
  | some o => tgsIn o t = true
mutual
theorem sndG (own : Option (List Nat)) (lc : Str → Bool) (hc : X.calm = true) (hN : X.N.Nodup) (hl : ∀ n, lc n = true → Loc X.env.scope n ∧ (X.fn n = true ∨ X.env.scope.names.lookup n = some .local)) :
    ∀ (t : Tg) (e : Expr), chkTg X.N lc t e = true → inOwn own t → PG X e (LG X.K own (asgW t))
  | .nm i, e, h, ho => by
    unfold chkTg at h
    split at h
    · rw [Bool.and_eq_true, decide_eq_true_eq] at h
      obtain ⟨h1, h2⟩ := hl _ h.2
      refine PG.imp (pg_name hN h.1 h1 h2) fun x σ H Q q => ?_
      obtain ⟨v, σv, μ, ρ, s, m, r, q⟩ := q
      refine q _ (s.set r) ?_
      cases own with
      | none => trivial
      | some o => exact wipe_set (of_decide_eq_true ho)
    · cases h
  | .tp ts, e, h, ho => by
    unfold chkTg at h
    split at h
    · rename_i es k pos
      have ho2 : insOwn own ts := by
        cases own with
        | none => trivial
        | some o => exact ho
      have hs := tgs_star h
      refine PG.imp (pg_tup hc (sndGs own lc hc hN hl ts es h ho2) each_len (each_none hs)) fun x σ H Q q => ?_
      obtain ⟨v, σv, μ, ρ, s, m, r, q⟩ := q
      cases v with
      | tup vs =>
        obtain ⟨a, xs, rfl, q1, rs⟩ := r.tup_of
        refine ⟨a, xs, rfl, q1, ?_, vs, σv, μ, ρ, s, m, rs, q⟩
        rw [← rs.length]
        exact asgsW_len q h
      | _ => exact False.elim q
    · cases h
theorem sndGs (own : Option (List Nat)) (lc : Str → Bool) (hc : X.calm = true) (hN : X.N.Nodup) (hl : ∀ n, lc n = true → Loc X.env.scope n ∧ (X.fn n = true ∨ X.env.scope.names.lookup n = some .local)) :
    ∀ (t : Tgs) (e : List Expr), chkTgs X.N lc t e = true → insOwn own t → PGs X e (LGs X.K own (asgsW t))
  | .nil, es, h, ho => by
    cases es with
    | cons e es => cases h
    | nil =>
      refine ⟨fun pins s σ H vs us Q I r q => pgs_nil.run pins s σ H vs us Q I r ?_⟩
      obtain ⟨ws, σv, μ, ρ, sg, m, rs, q⟩ := q
      cases ws with
      | nil =>
        cases rs
        exact ⟨rfl, q σ sg wr_refl⟩
      | cons w ws => exact False.elim q
  | .cons t ts, es, h, ho => by
    cases es with
    | nil => cases h
    | cons e es =>
      simp only [chkTgs, Bool.and_eq_true] at h
      have ho1 : inOwn own t ∧ insOwn own ts := by
        cases own with
        | none => exact ⟨trivial, trivial⟩
        | some o =>
          have ho : (tgIn o t && tgsIn o ts) = true := ho
          rw [Bool.and_eq_true] at ho
          exact ho
      have g1 := sndG own lc hc hN hl t e h.1.2 ho1.1
      have g2 := sndGs own lc hc hN hl ts es h.2 ho1.2
      refine ⟨fun pins s σ H vs us Q I r q => (pgs_cons g1 g2 (each_cons h.1.1)).run pins s σ H vs us Q I r ?_⟩
      obtain ⟨ws, σv, μ, ρ, sg, m, rs, q⟩ := q
      cases ws with
      | nil => exact False.elim q
      | cons w ws =>
        cases rs with
        | cons r1 r2 =>
          refine ⟨_, _, rfl, w, σv, μ, ρ, sg, m, r1, asgW_mono t w σv _ _ (fun σv1 q1 σ1 s1 w1 => ?_) q⟩
          exact ⟨ws, σv1, μ, ρ, s1, m, r2, asgsW_mono ts ws σv1 _ _ (fun σv2 q2 σ2 s2 w2 => q2 σ2 s2 (wr_trans w1 w2)) q1⟩
end
end
end PV

/-! own rules: t[::-1], repr of data, isinstance(x, (tuple, list)) -/
namespace PV
open PySem PySem.Spec PyProof.Rows L2
section
variable {prog : Program} {w : World} {A : Around} {E : Value → Shared → Prop} {s : Shared}
theorem slice_back {sl : Addr} {vs : Value} {n : Nat} {Q : Int × Int × Nat → Shared → Prop} (hs : s.heap.IsSliceOf sl .none .none vs) (ps : IsPart vs (some (-1))) (h : Q ((n : Int) - 1, -1, n) s) :
    wpAny (model prog w) A (Builtin.Slice.sliceApplied (.ref sl) (pure (n : Int))) Q E s := by
  obtain ⟨os, hos, hcs, hds⟩ := id hs
  unfold Builtin.Slice.sliceApplied Builtin.Slice.sliceFields
  refine wpAny_bind (wpAny_bind (wpAny_field hos hds (x := Value.none) rfl (wpAny_bind (wpAny_field hos hds (x := Value.none) rfl (wpAny_bind (wpAny_field hos hds (x := vs) rfl (wpAny_pure ?_)))))))
  refine wpAny_bind (HT.slicePart_ ps ?_)
  show wpAny _ _ (if ((-1 : Int) == 0) = true then _ else _) _ _ s
  rw [if_neg (by decide)]
  refine wpAny_bind (slicePart_none (wpAny_bind (slicePart_none (wpAny_bind (wpAny_pure ?_)))))
  have e : Builtin.Slice.slicePlaces ((n : Int) - 1) (-1) (-1) = n := by
    unfold Builtin.Slice.slicePlaces
    have h1 : ¬ ((-1 : Int) > 0) := by decide
    rw [if_neg h1, show (- -1 : Int) = 1 by decide, Int.ediv_one]
    split <;> omega
  show wpAny _ _ (pure ((n : Int) - 1, (-1 : Int), Builtin.Slice.slicePlaces ((n : Int) - 1) (-1) (-1))) _ _ s
  rw [e]
  exact wpAny_pure h
theorem pick_back (xs : Array Value) : ((List.range xs.size).filterMap fun (m : Nat) => xs[((xs.size : Int) - 1 + (m : Int) * (-1)).toNat]?).toArray = xs.toList.reverse.toArray := by
  have e : (fun (m : Nat) => xs[((xs.size : Int) - 1 + (m : Int) * (-1)).toNat]?) = (fun k : Nat => xs[k]?) ∘ fun (m : Nat) => (((xs.size : Int) - 1 + (m : Int) * (-1)).toNat) := rfl
  have e2 : (List.range xs.size).map (fun m : Nat => ((xs.size : Int) - 1 + (m : Int) * (-1)).toNat) = (List.range xs.size).reverse := by
    rw [← PySem.W.krv_range]
    refine List.map_congr_left fun m hm => ?_
    have := List.mem_range.mp hm
    omega
  rw [e, ← List.filterMap_map, e2, List.filterMap_reverse, PySem.W.krv_all]
theorem getItem_back {t sl : Addr} {items : Array Value} {vs : Value} {Q : Value → Shared → Prop} (ht : IsTup s.heap t items) (hs : s.heap.IsSliceOf sl .none .none vs) (ps : IsPart vs (some (-1)))
    (h : Q (.ref s.heap.objs.size) { s with heap := s.heap.push { cls := .type "tuple", data := .seq items.toList.reverse.toArray } }) (hz : items.size ≤ sizeLine) : wpAny (model prog w) A (getItem (.ref t) (.ref sl)) Q E s := by
  have ok : sizeOk (.seq items.toList.reverse.toArray) := by
    show items.toList.reverse.toArray.size ≤ sizeLine
    rw [List.size_toArray, List.length_reverse, Array.length_toList]
    exact hz
  obtain ⟨os, hos, hcs, hds⟩ := id hs
  have isS : s.TypeIs (.ref sl) "slice" := ⟨os, hos, hcs⟩
  unfold getItem
  try with_reducible refine wpAny_holding ?_
  first | refine wpAny_bind (wpAny_pure ?_) | skip
  refine wpAny_bind (wpAny_sequenceKey ht.typeIs (by decide) ?_)
  refine wpAny_bind (wpAny_callSpecial?_slot (name := Str.ofString "__getitem__") ht.typeIs PyProof.Rows.slot_tuple_getitem
    (wpAny_call_entry PyProof.Rows.slot_tuple_getitem ht.typeIs PyProof.Rows.entry_tuple_getitem ?_ (PyProof.Rows.args_tuple_getitem _ _)))
  show wpAny _ _ (Builtin.Tuple.tupleItemsOf (.ref t) >>= _) _ _ s
  refine wpAny_bind (PyProof.Rows.tupleItemsOf_ ht (wpAny_bind (wpAny_typeOf isS ?_)))
  rw [if_pos (by decide)]
  refine wpAny_bind (slice_back hs ps ?_)
  have no : ¬ ((((items.size : Int) - 1) == 0 && (-1 : Int) == 1 && items.size == items.size) = true) := by simp
  show wpAny _ _ (if (((items.size : Int) - 1) == 0 && (-1 : Int) == 1 && items.size == items.size) = true then _ else _) _ _ s
  rw [if_neg no, pick_back]
  first
    | exact wpAny_bind (m := Builtin.Tuple.tupleExact _) (wpAny_newObj_type (wpAny_pure ⟨_, rfl, wpAny_pure h⟩) ok)
    | exact wpAny_bind (m := Builtin.Tuple.tupleExact _) (wpAny_newObj_type (wpAny_bind (wpAny_pure (wpAny_pure ⟨_, rfl, wpAny_pure h⟩))) ok)
    | exact wpAny_bind (wpAny_bind (m := Builtin.Tuple.tupleExact _) (wpAny_newObj_type (wpAny_pure (wpAny_pure ⟨_, rfl, wpAny_pure h⟩)) ok))
    | exact wpAny_bind (wpAny_bind (m := Builtin.Tuple.tupleExact _) (wpAny_newObj_type (wpAny_pure ⟨_, rfl, wpAny_pure h⟩) ok))
end
section
variable {X : Cx}
/-- a list or a tuple, turned about -/
def tBack (K : PySem.W.Frag) (te : TE) : TE := fun σ H Q => te σ H fun x H1 => ∃ a xs, x = .ref a ∧ ((SqL K H1 a xs ∧ ∀ p, H1 p = none → Q (.ref p) (upd H1 p (.lst xs.reverse))) ∨ (SqT K H1 a xs ∧ ∀ p, H1 p = none → Q (.ref p) (upd H1 p (.tup xs.reverse))))
theorem pe_back {e : Expr} {te : TE} {k : Nat} {p1 p2 p3 pos : Pos} (he : PE X e te) : PE X (.Subscript e (.Slice none none (some (.UnaryOp .USub (.Constant (.int 1) k p1) p2)) p3) pos) (tBack X.K te) := by
  refine ⟨fun pins s σ H Q I h => ?_⟩
  refine Subscript_ (thn (he.run pins s σ H _ I h) fun v s1 ⟨x, H1, I1, r1, q1⟩ => ?_)
  obtain ⟨a, xs, rfl, q⟩ := q1
  cases r1
  have one : PO X (some (.UnaryOp .USub (.Constant (.int 1) k p1) p2)) (tPart (tUn (rU fun i => .int (-i)) (tC (.int 1)))) := po_some (pe_un un_neg pe_int)
  refine wpAny_Slice (thn (po_none.run pins s1 σ H1 (fun o H2 => o = none ∧ H2 = H1) I1 ⟨rfl, rfl⟩) fun vl s2 ⟨l, H2, I2, pl, el, e2⟩ => ?_)
  subst el e2
  refine thn (po_none.run pins s2 σ H2 (fun o H3 => o = none ∧ H3 = H2) I2 ⟨rfl, rfl⟩) fun vu s3 ⟨u, H3, I3, pu, eu, e3⟩ => ?_
  subst eu e3
  refine thn (one.run pins s3 σ H3 (fun o H4 => o = some (-1) ∧ H4 = H3) I3 ⟨1, rfl, -1, rfl, rfl, rfl⟩) fun vs s4 ⟨o, H4, I4, ps, eo, e4⟩ => ?_
  subst eo e4
  have I5 : Inv X pins σ H4 { s4 with heap := s4.heap.push { cls := .type "slice", data := .fields #[vl, vu, vs] } } := I4.kept (t' := s4.toks) fun b ob q => Heap.get?_push_of_some _ q
  show wpAny (model X.prog X.w) X.A (subscriptTail e (.Slice none none (some (.UnaryOp .USub (.Constant (.int 1) k p1) p2)) p3) (.ref a) (.ref s4.heap.objs.size)) (EP X pins σ Q) X.xe { s4 with heap := s4.heap.push { cls := .type "slice", data := .fields #[vl, vu, vs] } }
  rcases q with ⟨hx, q⟩ | ⟨hx, q⟩
  · obtain ⟨its, r, ht, hz⟩ := I5.list hx
    have hlen := r.length
    refine tail_any (ops := [.ref a, .ref s4.heap.objs.size]) ht.isList.typeIs (PySem.slot_list_getitem.lookup) ?_ (by with_unfolding_all rfl)
    refine wpAny_getItem_list_slice ht.isList (Heap.IsSliceOf.new _ vl vu vs) pl pu ps (by decide) ?_ (by rw [List.size_toArray]; omega)
    rw [PySem.W.krv_pick]
    refine ⟨.ref _, _, I5.laid (t' := s4.toks) (o := .lst xs.reverse) (fun b ob q => Heap.get?_push_of_some _ q) (Nat.le_refl _) ?_, rfl, q _ (I5.hok.fresh (Nat.le_refl _))⟩
    exact ⟨by rw [List.length_reverse]; exact hz, _, 0, r.reverse, Heap.get?_push_size _ rfl⟩
  · obtain ⟨its, r, ht, hz⟩ := I5.tuple hx
    have hlen := r.length
    cases pl
    cases pu
    refine tail_any (ops := [.ref a, .ref s4.heap.objs.size]) ht.typeIs PyProof.Rows.slot_tuple_getitem.lookup ?_ (by with_unfolding_all rfl)
    refine getItem_back ht (Heap.IsSliceOf.new _ .none .none vs) ps ?_ (by rw [List.size_toArray]; omega)
    refine ⟨.ref _, _, I5.laid (t' := s4.toks) (o := .tup xs.reverse) (fun b ob q => Heap.get?_push_of_some _ q) (Nat.le_refl _) ?_, rfl, q _ (I5.hok.fresh (Nat.le_refl _))⟩
    exact ⟨by rw [List.length_reverse]; exact hz, _, r.reverse, IsTup.new _ _⟩
/-- repr of data -/
theorem cr_repr (hg : X.A.guards = some []) (hu : X.A.units + 65 < cLine) : CallR X (.builtin "repr") (fun xs H Q => ∃ a d, xs = [.ref a] ∧ Dp X.K H (.ref a) d ∧ (d.showable = true ∧ d.hasDict = false ∧ d.depth ≤ 60 ∧ d.shown.length ≤ sizeLine) ∧ Q (.str d.shown) H) := by
  intro pins s σ H xs us Q I r h
  obtain ⟨a, d, rfl, hd, ⟨h1, h2, h3, h4⟩, q⟩ := h
  obtain ⟨u, rfl, ru⟩ := vals1 r
  obtain ⟨as, hr⟩ := Dp.reads I d (.ref a) u hd ru
  obtain rfl : u = Value.ref a := ru
  exact repr_of_reads' hr h1 (PyData.noDict_hsm h2) hg (by omega) (fun _ _ e => e) (fun h' u tk hk => ⟨.str _, H, I.kept hk, ⟨_, rfl⟩, q⟩) h4
/-- addresses of what is read: none is sys.modules -/
theorem pairs_reads {prog : Program} {w : World} {h : Heap} : ∀ {es : List DictEntry} {vs : List (Key × Value)}, PySem.Pairs (mixKind prog w) es vs → ∃ as, ReadsAll h (es.map (·.key)) (vs.map fun kv => keyD kv.1) as ∧ as = [] ∧ es.map (·.val) = vs.map (·.2)
  | _, _, .nil => ⟨[], .nil, rfl, rfl⟩
  | _, _, @PySem.Pairs.cons _ _ _ _ _ e kv es vs h1 h2 h3 => by
    obtain ⟨as, r, rfl, e2⟩ := pairs_reads (h := h) h3
    rcases keyIs_shape h1 with ⟨i, t, e3, e4⟩ | ⟨x, t, e3, e4⟩
    · refine ⟨[] ++ [], ?_, rfl, by rw [List.map_cons, List.map_cons, h2, e2]⟩
      rw [List.map_cons, List.map_cons, e4, e3]
      exact .cons (.int i t) r
    · refine ⟨[] ++ [], ?_, rfl, by rw [List.map_cons, List.map_cons, h2, e2]⟩
      rw [List.map_cons, List.map_cons, e4, e3]
      exact .cons (.str x t) r
theorem optAll_len {α β : Type} {f : α → Option β} : ∀ {vs : List α} {ds : List β}, optAll f vs = some ds → ds.length = vs.length
  | [], ds, e => by cases e; rfl
  | v :: vs, ds, e => by
    unfold optAll at e
    split at e
    · rename_i b bs e1 e2
      cases e
      simp [optAll_len e2]
    · cases e
theorem zip_fst {α β : Type} : ∀ {xs : List α} {ys : List β}, xs.length = ys.length → (List.zip xs ys).map (·.1) = xs ∧ (List.zip xs ys).map (·.2) = ys
  | [], [], _ => ⟨rfl, rfl⟩
  | x :: xs, y :: ys, h => by
    obtain ⟨a, b⟩ := zip_fst (xs := xs) (ys := ys) (by simpa using h)
    exact ⟨by rw [List.zip_cons_cons, List.map_cons, a], by rw [List.zip_cons_cons, List.map_cons, b]⟩
  | [], _ :: _, h => by simp at h
  | _ :: _, [], h => by simp at h
theorem drel_reps {K : PySem.W.Frag} {ρ : List Addr} {H : Hp} : ∀ {kvs : List (Key × Vl)} {ks : List (Key × V)}, DRel K ρ H kvs ks → Reps K ρ H (kvs.map (·.2)) (ks.map (·.2)) ∧ kvs.map (·.1) = ks.map (·.1)
  | _, _, .nil => ⟨.nil, rfl⟩
  | _, _, .cons h r => by
    obtain ⟨a, b⟩ := drel_reps r
    exact ⟨.cons h.2 a, by rw [List.map_cons, List.map_cons, h.1, b]⟩
theorem kv_vals : ∀ {ks : List (Key × V)} {vs : List (Key × Value)}, KV ks vs → Vals (ks.map (·.2)) (vs.map (·.2)) ∧ ks.map (·.1) = vs.map (·.1)
  | _, _, .nil => ⟨.nil, rfl⟩
  | _, _, .cons h r => by
    obtain ⟨a, b⟩ := kv_vals r
    exact ⟨.cons h.2 a, by rw [List.map_cons, List.map_cons, h.1, b]⟩
theorem toR_reads {ρ : List Addr} {H : Hp} {μ : Mem} (hxt : Xtra X.base) {pins : List (Addr × Obj)} {s : Shared} {σ : L2.St} (I : Inv X pins σ H s) (m : MemOk X.K ρ H μ) : ∀ (n : Nat) (v : Vl) (x : V) (u : Value) (d : PyData), Rep X.K ρ H v x → RelV x u → toR μ n v = some d → ∃ as, Reads s.heap u d as ∧ sysModules ∉ as := by
  have flatc : ∀ (n : Nat) (v : Vl) (x : V) (u : Value) (d : PyData), Rep X.K ρ H v x → RelV x u → toR μ n v = some d → (∀ vs, v ≠ .tup vs) → (∀ i, v ≠ .ref i) → ∃ as, Reads s.heap u d as ∧ sysModules ∉ as := by
    intro n v x u d r rv e h1 h2
    cases v with
    | none => cases r; cases rv; cases n <;> (simp only [toR, Option.some.injEq] at e; subst e; exact ⟨_, .none, by simp⟩)
    | bool b => cases r; cases rv; cases n <;> (simp only [toR, Option.some.injEq] at e; subst e; exact ⟨_, .bool b, by simp⟩)
    | int i => cases r; obtain ⟨t, rfl⟩ := rv; cases n <;> (simp only [toR, Option.some.injEq] at e; subst e; exact ⟨_, .int i t, by simp⟩)
    | str i => cases r; obtain ⟨t, rfl⟩ := rv; cases n <;> (simp only [toR, Option.some.injEq] at e; subst e; exact ⟨_, .str i t, by simp⟩)
    | tup vs => exact absurd rfl (h1 vs)
    | ref i => exact absurd rfl (h2 i)
  intro n
  induction n with
  | zero =>
    intro v x u d r rv e
    cases v with
    | tup vs => simp [toR] at e
    | ref i => simp [toR] at e
    | _ => exact flatc 0 _ x u d r rv e (by simp) (by simp)
  | succ n ih =>
    have all : ∀ {vs : List Vl} {xs : List V}, Reps X.K ρ H vs xs → ∀ {us : List Value} {ds : List PyData}, Vals xs us → optAll (toR μ n) vs = some ds → ∃ as, ReadsAll s.heap us ds as ∧ sysModules ∉ as := by
      intro vs
      induction vs with
      | nil =>
        intro xs r us ds rv e
        cases r; cases rv; cases e
        exact ⟨_, .nil, by simp⟩
      | cons v vs ihv =>
        intro xs r us ds rv e
        cases r with
        | cons hv r =>
          cases rv with
          | cons hu rv =>
            unfold optAll at e
            split at e
            · rename_i b bs e1 e2
              cases e
              obtain ⟨as, r1, n1⟩ := ih _ _ _ _ hv hu e1
              obtain ⟨bs2, r2, n2⟩ := ihv r rv e2
              exact ⟨_, .cons r1 r2, by simp [n1, n2]⟩
            · cases e
    intro v x u d r rv e
    cases v with
    | tup vs =>
      obtain ⟨a, xs, rfl, q, rs⟩ := r.tup_of
      simp only [toR, Option.map_eq_some_iff] at e
      obtain ⟨ds, e1, rfl⟩ := e
      cases rv
      obtain ⟨its, rvs, ⟨o, ho, hc, k, hd⟩, _⟩ := I.tuple q
      obtain ⟨as, h1, h2⟩ := all rs rvs e1
      exact ⟨_, .tuple ho hc hd h1, h2⟩
    | ref i =>
      obtain ⟨a, rfl, q⟩ := r.ref_of
      simp only [toR] at e
      cases q1 : lstAt μ i with
      | some vs =>
        rw [q1] at e
        simp only [Option.map_eq_some_iff] at e
        obtain ⟨ds, e1, rfl⟩ := e
        obtain ⟨xs, q2, rs⟩ := lst_of m q1 q
        cases rv
        obtain ⟨its, rvs, ⟨o, k, ho, hc, _, hd⟩, _⟩ := I.list q2
        obtain ⟨as, h1, h2⟩ := all rs rvs e1
        refine ⟨_, .list ho hc hd h1, ?_⟩
        rw [List.mem_cons]
        rintro (z | z)
        · obtain ⟨o2, h3, h4⟩ := hxt.sysm
          have := I.bk _ _ h3
          rw [z, ho] at this
          cases this
          exact h4 hc
        · exact h2 z
      | none =>
        rw [q1] at e
        cases q3 : dctAt μ i with
        | none => simp only [q3] at e; cases e
        | some kvs =>
          simp only [q3, Option.map_eq_some_iff] at e
          obtain ⟨ds, e1, rfl⟩ := e
          obtain ⟨ks, hk, rel⟩ := dct_of m q3 q
          obtain ⟨_, hne, vs, kv, o, es, ep, ho, hex, hd, _, hp, _⟩ := L2.dk_rd I.hok hk
          cases rv
          have rel2 := drel_reps rel
          have kv2 := kv_vals kv
          obtain ⟨as, r1, rfl, e4⟩ := pairs_reads (h := s.heap) hp
          obtain ⟨bs, r2, n2⟩ := all rel2.1 kv2.1 e1
          have el : (kvs.map fun kv => keyD kv.1) = vs.map fun kv => keyD kv.1 := by
            have := congrArg (List.map keyD) (rel2.2.trans kv2.2)
            rw [List.map_map, List.map_map] at this
            exact this
          have hl : (kvs.map fun kv => keyD kv.1).length = ds.length := by rw [optAll_len e1, List.length_map, List.length_map]
          obtain ⟨z1, z2⟩ := zip_fst hl
          refine ⟨_, .dict ho hex.1 hd (kvs := List.zip (kvs.map fun kv => keyD kv.1) ds) (by rw [z1, el]; exact r1) (by rw [z2, e4]; exact r2), ?_⟩
          rw [List.singleton_append, List.mem_cons]
          rintro (z | z)
          · rw [← z] at hne
            simp at hne
          · exact n2 z
    | _ => exact flatc (n + 1) _ x u d r rv e (by simp) (by simp)
/-- repr of data, of None, of data with dicts -/
theorem cr_reprN (hg : X.A.guards = some []) (hu : X.A.units + 65 < cLine) : CallR X (.builtin "repr") (fun xs H Q => (∃ a d, xs = [.ref a] ∧ Dp X.K H (.ref a) d ∧ (d.showable = true ∧ d.hasDict = false ∧ d.depth ≤ 60 ∧ d.shown.length ≤ sizeLine) ∧ Q (.str d.shown) H) ∨ (xs = [.non] ∧ Q (.str (Str.ofString "None")) H) ∨
    (∃ a d, xs = [.ref a] ∧ (∀ (pins : List (Addr × Obj)) (s : Shared) (σ : L2.St), Inv X pins σ H s → ∃ as, Reads s.heap (.ref a) d as ∧ sysModules ∉ as) ∧ (d.showable = true ∧ d.depth ≤ 60 ∧ d.shown.length ≤ sizeLine) ∧ Q (.str d.shown) H) ∨
    (∃ i : Int, xs = [.int i] ∧ i.natAbs.log2 < 1920 ∧ Q (.str (toString i)) H) ∨ (∃ b : Bool, xs = [.bl b] ∧ Q (.str (boolText b)) H) ∨ ∃ x : Str, xs = [.str x] ∧ (reprText x).length ≤ sizeLine ∧ Q (.str (reprText x)) H) := by
  intro pins s σ H xs us Q I r h
  rcases h with h | ⟨rfl, q⟩ | ⟨a, d, rfl, hd, ⟨h1, h3, h4⟩, q⟩ | ⟨i, rfl, hi, q⟩ | ⟨b, rfl, q⟩ | ⟨x, rfl, hx, q⟩
  · exact cr_repr hg hu pins s σ H xs us Q I r h
  · obtain ⟨u, rfl, ru⟩ := vals1 r
    obtain rfl : u = Value.none := ru
    exact PySem.P.repr_of_none ⟨.str _, H, I.tok _, ⟨_, rfl⟩, q⟩
  · obtain ⟨u, rfl, ru⟩ := vals1 r
    obtain rfl : u = Value.ref a := ru
    obtain ⟨as, hr, hn⟩ := hd pins s σ I
    exact repr_of_reads' hr h1 (fun _ => hn) hg (by omega) (fun _ _ e => e) (fun h' u tk hk => ⟨.str _, H, I.kept hk, ⟨_, rfl⟩, q⟩) h4
  · obtain ⟨u, rfl, t, rfl⟩ := vals1 r
    exact PySem.P.repr_of_int hi ⟨.str _, H, I.tok _, ⟨_, rfl⟩, q⟩
  · obtain ⟨u, rfl, ru⟩ := vals1 r
    cases ru
    exact PySem.P.repr_of_bool ⟨.str _, H, I.tok _, ⟨_, rfl⟩, q⟩
  · obtain ⟨u, rfl, t, rfl⟩ := vals1 r
    exact PySem.P.repr_of_str ⟨.str _, H, I.tok _, ⟨_, rfl⟩, q⟩ hx
/-- str of a text, of a tuple, too -/
theorem call_strN (hg : X.A.guards = some []) (hu : X.A.units + 65 < cLine) : CallR X (.type "str") (fun xs H Q => ((∃ i : Int, xs = [.int i] ∧ i.natAbs.log2 < 1920 ∧ Q (.str (toString i)) H) ∨ ∃ b : Bool, xs = [.bl b] ∧ Q (.str (boolText b)) H) ∨
    (∃ x : Str, xs = [.str x] ∧ Q (.str x) H) ∨ ∃ a d, xs = [.ref a] ∧ Dp X.K H (.ref a) d ∧ (d.showable = true ∧ d.hasDict = false ∧ d.depth ≤ 60 ∧ d.shown.length ≤ sizeLine) ∧ Q (.str d.shown) H) := by
  intro pins s σ H xs us Q I r h
  rcases h with h | ⟨x, rfl, q⟩ | ⟨a, d, rfl, hd, ⟨h1, h2, h3, h4⟩, q⟩
  · exact call_str_ib pins s σ H xs us Q I r h
  · obtain ⟨u, rfl, t, rfl⟩ := vals1 r
    exact PySem.P.str_of_str ⟨.str x, H, I, ⟨t, rfl⟩, q⟩
  · obtain ⟨u, rfl, ru⟩ := vals1 r
    obtain ⟨as, hr⟩ := Dp.reads I _ _ _ hd ru
    obtain rfl : u = Value.ref a := ru
    exact str_of_reads hr h1 (fun z => by rw [h2] at z; cases z) hg (by omega) (fun _ _ e => e) (fun h' u tk hk => ⟨.str _, H, I.kept hk, ⟨_, rfl⟩, q⟩) h4
/-- the tuples of list(d.items()) -/
theorem items_reps {K : PySem.W.Frag} {ρ : List Addr} {H' : Hp} {p : Addr} : ∀ {kvs : List (Key × Vl)} {ks : List (Key × V)} {ts : List Addr}, DRel K ρ (fun b => if b = p then none else H' b) kvs ks → Paired (fun (t : Addr) (q : Key × V) => H' t = some (.tup [kV q.1, q.2])) ts ks → p ∉ ts →
    Reps K ρ (fun b => if b = p then none else H' b) (kvs.map fun p => Vl.tup [keyV p.1, p.2]) (ts.map V.ref)
  | _, _, _, .nil, .nil, _ => .nil
  | _, _, _, .cons (a := u) (b := w) h t, .cons (a := c) h2 t2, hn => by
    rw [List.mem_cons, not_or] at hn
    rw [List.map_cons, List.map_cons]
    have e : (fun b => if b = p then none else H' b) c = some (.tup [kV w.1, w.2]) := by
      show (if c = p then none else H' c) = _
      rw [if_neg (Ne.symm hn.1)]
      exact h2
    refine .cons (.tup (.inl (.inl e)) (.cons ?_ (.cons h.2 .nil))) (items_reps t t2 hn.2)
    rw [h.1]
    cases w.1 with
    | inl i => exact .int i
    | inr s => exact .str s
/-- isinstance(x, (tuple, list)) -/
theorem pe_isTL {e : Expr} {te : TE} {k : Nat} {p p1 p2 tpos pos : Pos} (he : PE X e te) (hg : Gl X "isinstance") (hm : X.mg "isinstance" = none) (h1 : Gl X "tuple") (m1 : X.mg "tuple" = none) (h2 : Gl X "list") (m2 : X.mg "list" = none) (st : notStar e = true) :
    PE X (.Call (.Name "isinstance" p) [e, .Tuple [.Name "tuple" p1, .Name "list" p2] k tpos] [] pos)
      (tCB (rIsiTZ X.K) (tCons te (tCons (tTup (tCons (tC (.ty "tuple")) (tCons (tC (.ty "list")) tNil))) tNil))) :=
  pe_callB call_isiTZ hg hm (by decide +kernel)
    (pa_cons he (pa_cons (pe_tup (pa_cons (pe_bltn (v := .ty "tuple") h1 m1 (by decide +kernel) rfl (by decide) (by decide)) (pa_cons (pe_bltn (v := .ty "list") h2 m2 (by decide +kernel) rfl (by decide) (by decide)) pa_nil rfl) rfl)) pa_nil rfl) (star_cons st)) (by decide) (by decide) (star_cons st) rfl
/-- a tuple's targets: a tuple or a list is taken apart -/
def LGU (K : PySem.W.Frag) (ts : Tgs) : TG := fun x σ H Q => ∃ v σv μ ρ, SgOk K ρ H σv σ ∧ MemOk K ρ H μ ∧ Rep K ρ H v x ∧ unpW ts v μ σv (fun σv2 => ∀ σ2, SgOk K ρ H σv2 σ2 → Q σ2 H)
theorem pg_both {N : List Str} {lc : Str → Bool} {ts : Tgs} {es : List Expr} {k : Nat} {p : Pos} (hc : X.calm = true) (h1 : PG X (.Tuple es k p) (LG X.K none (asgW (.tp ts)))) (h2 : PGs X es (LGs X.K none (asgsW ts))) (ck : chkTgs N lc ts es = true) : PG X (.Tuple es k p) (LGU X.K ts) := by
  have h3 := pg_unl (k := k) (pos := p) hc h2 each_len (each_none (tgs_star ck))
  refine ⟨fun pins s σ H x w Q I r q => ?_⟩
  obtain ⟨v, σv, μ, ρ, sg, m, rv, q⟩ := q
  unfold unpW at q
  split at q
  · obtain ⟨a, rfl, q2⟩ := rv.ref_of
    split at q
    · rename_i e
      obtain ⟨xs, q3, rs⟩ := lst_of m e q2
      exact h3.run pins s σ H _ w Q I r ⟨a, xs, rfl, q3, by rw [← rs.length]; exact asgsW_len q ck, _, σv, μ, ρ, sg, m, rs, asgsW_mono ts _ σv _ _ (fun σ2 z σ3 s3 _ => z σ3 s3) q⟩
    · exact False.elim q
  · exact h1.run pins s σ H _ w Q I r ⟨_, σv, μ, ρ, sg, m, rv, asgW_mono (.tp ts) _ σv _ _ (fun σ2 z σ3 s3 _ => z σ3 s3) q⟩
def rMinD (K : PySem.W.Frag) (le : Int → Int → Prop) : List V → List V → Hp → VK → Prop := fun xs zs H Q => ∃ (p : Addr) (ns : List Int) (d : V), xs = [.ref p] ∧ zs = [d] ∧ (SqL K H p (ns.map V.int) ∨ SqT K H p (ns.map V.int)) ∧ (ns = [] → Q d H) ∧ ∀ m, m ∈ ns → (∀ y ∈ ns, le m y) → Q (.int m) H
theorem cr_minD (hc : X.calm = true) (hu : X.A.units + 65 < cLine) : CallRK X (.builtin "min") ["default"] (rMinD X.K (· ≤ ·)) := by
  intro pins s σ H xs zs us ws Q I r rz h
  obtain ⟨p, ns, d, rfl, rfl, hq, h0, h1⟩ := h
  obtain ⟨u, rfl, ru⟩ := vals1 r
  obtain ⟨dv, rfl, rd⟩ := vals1 rz
  obtain rfl : u = Value.ref p := ru
  rcases hq with hq | hq
  · obtain ⟨its, rv, pl, _⟩ := I.list hq
    obtain ⟨as, hr⟩ := reads_ints s.heap rv
    show wpAny _ _ (call (.builtin "min") [.ref p] [(Str.ofString "default", dv)]) _ _ _
    refine PySem.W.min_list_default (I.ok.hd hc) pl.isList (by simpa using hr) (alike_ints ns) (by rw [depth_ints0]; omega) (fun e h' tk hk => ?_) fun y ys i v h' tk bs e hv hrd hk => ?_
    · exact ⟨d, H, I.kept hk, rd, h0 (by simpa using e)⟩
    · cases ns with
      | nil => cases e
      | cons n ns =>
        rw [List.map_cons] at e
        cases e
        rw [PySem.W.minD_ints] at hrd
        obtain ⟨a, b⟩ := foldMin ns n
        cases hrd with
        | int k t => exact ⟨.int _, H, I.kept hk, ⟨_, rfl⟩, h1 _ a b⟩
  · obtain ⟨its, rv, pl, _⟩ := I.tuple hq
    obtain ⟨as, hr⟩ := reads_ints s.heap rv
    show wpAny _ _ (call (.builtin "min") [.ref p] [(Str.ofString "default", dv)]) _ _ _
    refine PySem.W.min_tuple_default (I.ok.hd hc) (show s.heap.IsTuple p its.toArray from pl) (by simpa using hr) (alike_ints ns) (by rw [depth_ints0]; omega) (fun e h' tk hk => ?_) fun y ys i v h' tk bs e hv hrd hk => ?_
    · exact ⟨d, H, I.kept hk, rd, h0 (by simpa using e)⟩
    · cases ns with
      | nil => cases e
      | cons n ns =>
        rw [List.map_cons] at e
        cases e
        rw [PySem.W.minD_ints] at hrd
        obtain ⟨a, b⟩ := foldMin ns n
        cases hrd with
        | int k t => exact ⟨.int _, H, I.kept hk, ⟨_, rfl⟩, h1 _ a b⟩
theorem cr_maxD (hc : X.calm = true) (hu : X.A.units + 65 < cLine) : CallRK X (.builtin "max") ["default"] (rMinD X.K (fun m y => y ≤ m)) := by
  intro pins s σ H xs zs us ws Q I r rz h
  obtain ⟨p, ns, d, rfl, rfl, hq, h0, h1⟩ := h
  obtain ⟨u, rfl, ru⟩ := vals1 r
  obtain ⟨dv, rfl, rd⟩ := vals1 rz
  obtain rfl : u = Value.ref p := ru
  rcases hq with hq | hq
  · obtain ⟨its, rv, pl, _⟩ := I.list hq
    obtain ⟨as, hr⟩ := reads_ints s.heap rv
    show wpAny _ _ (call (.builtin "max") [.ref p] [(Str.ofString "default", dv)]) _ _ _
    refine PySem.W.max_list_default (I.ok.hd hc) pl.isList (by simpa using hr) (alike_ints ns) (by rw [depth_ints0]; omega) (fun e h' tk hk => ?_) fun y ys i v h' tk bs e hv hrd hk => ?_
    · exact ⟨d, H, I.kept hk, rd, h0 (by simpa using e)⟩
    · cases ns with
      | nil => cases e
      | cons n ns =>
        rw [List.map_cons] at e
        cases e
        rw [PySem.W.maxD_ints] at hrd
        obtain ⟨a, b⟩ := foldMax ns n
        cases hrd with
        | int k t => exact ⟨.int _, H, I.kept hk, ⟨_, rfl⟩, h1 _ a b⟩
  · obtain ⟨its, rv, pl, _⟩ := I.tuple hq
    obtain ⟨as, hr⟩ := reads_ints s.heap rv
    show wpAny _ _ (call (.builtin "max") [.ref p] [(Str.ofString "default", dv)]) _ _ _
    refine PySem.W.max_tuple_default (I.ok.hd hc) (show s.heap.IsTuple p its.toArray from pl) (by simpa using hr) (alike_ints ns) (by rw [depth_ints0]; omega) (fun e h' tk hk => ?_) fun y ys i v h' tk bs e hv hrd hk => ?_
    · exact ⟨d, H, I.kept hk, rd, h0 (by simpa using e)⟩
    · cases ns with
      | nil => cases e
      | cons n ns =>
        rw [List.map_cons] at e
        cases e
        rw [PySem.W.maxD_ints] at hrd
        obtain ⟨a, b⟩ := foldMax ns n
        cases hrd with
        | int k t => exact ⟨.int _, H, I.kept hk, ⟨_, rfl⟩, h1 _ a b⟩
end
end PV

/-! sorted(d.items()) of a dict with keys of one part -/
namespace PV
open PySem PySem.Spec PyProof.Rows L2
def itemK (p : Key × Vl) : Vl := .tup [keyV p.1, p.2]
theorem pairs_get {P : Program} {w : World} : ∀ {es : List DictEntry} {vs : List (Key × Value)}, Pairs (mixKind P w) es vs → ∀ {j : Nat} {e : DictEntry}, es[j]? = some e → ∃ y, vs[j]? = some y ∧ keyIs y.1 e.key = true ∧ e.val = y.2
  | _, _, .nil, j, e, h => by simp at h
  | _, _, .cons (e := e1) (kv := y) h1 h2 t, 0, e, h => by
    have h : e1 = e := by simpa using h
    subst h
    exact ⟨y, rfl, h1, h2⟩
  | _, _, .cons h1 h2 t, j + 1, e, h => by
    obtain ⟨y, a, b⟩ := pairs_get t (j := j) (e := e) (by simpa using h)
    exact ⟨y, by simpa using a, b⟩
section
variable {X : Cx} {pins : List (Addr × Obj)} {σ : L2.St} {H : Hp} {s : Shared}
theorem srt_itemsK {p a : Addr} {ks : List (Key × V)} {kvs : List (Key × Vl)} {ρ : List Addr} {Q : VK} (hc : X.calm = true) (hu : X.A.units + 65 < cLine) (I : Inv X pins σ H s) (hp : H p = some (L2.DX.itemsO p a)) (hd : Rd H a (.dK ks)) (rel0 : DRel X.K ρ H kvs ks) {ds : List PyData} (hds : optAll (toK 10) (kvs.map itemK) = some ds) (hok : srtOk ds = true)
    (q : ∀ H1, (∀ b o, H b = some o → H1 b = some o) → ∀ zs p, Reps X.K ρ H1 (srtV (kvs.map itemK)) zs → H1 p = none → Q (.ref p) (upd H1 p (.lst zs))) : wpAny (model X.prog X.w) X.A (call (.builtin "sorted") [.ref p]) (EP X pins σ Q) X.xe s := by
  have view : s.heap.IsItemsView p a := (show ObjOk X.prog X.w H s.heap p (L2.DX.itemsO p a) from I.hok p _ hp).1
  obtain ⟨z, hs, vs, kv, o, es, ep, ho, hx, hdat, hk0, hpairs, hn⟩ := L2.dk_rd I.hok hd
  have hsz : es.size = vs.length := by rw [← hpairs.length]; simp
  have hl : ks.length = vs.length := Paired.length kv
  have hl2 : kvs.length = ks.length := Paired.length rel0
  refine sorted_cps hu (fun h1 tk l => (∀ b u, s.heap.get? b = some u → h1.get? b = some u) ∧ ∃ as, l = as.map Value.ref ∧ as.length = es.size ∧ PySem.W.DilG es s.heap.objs.size h1 as)
    (fun Q1 hQ => PySem.W.dil_collect (A := X.A.in1) (es := es) (ep := ep) (I.ok.hd hc) view ⟨o, ho, hx, hdat⟩ (by omega) fun h1 tk as hk hal g => hQ h1 tk _ ⟨hk, as, rfl, hal, g⟩) ?_
  rintro h1 tk l ⟨k, as, rfl, hal, g⟩
  have I1 : Inv X pins σ H { s with heap := h1, toks := tk } := I.kept k
  have nd : as.Nodup := List.Pairwise.imp (fun h => Nat.ne_of_lt h) g.rise
  -- the pair at its place
  have pr : ∀ (j : Nat) (b : Addr), as[j]? = some b → ∃ (e : Key × Vl) (x : Key × V) (kv v : Value), kvs[j]? = some e ∧ (e.1 = x.1 ∧ Rep X.K ρ H e.2 x.2) ∧ RelV (kV x.1) kv ∧ RelV x.2 v ∧
      h1.get? b = some { cls := .type "tuple", data := .seq #[kv, v] } := by
    intro j b hj
    obtain ⟨en, hg⟩ := g.pairs j b hj
    have e1 : es.toList[j]? = some es[j] := by rw [Array.getElem?_toList, Array.getElem?_eq_getElem en]
    obtain ⟨y, e2, e3, e4⟩ := pairs_get hpairs e1
    obtain ⟨x, ex, r1, r2⟩ := L2.DX.pget kv e2
    obtain ⟨e, ee, h2⟩ := L2.DX.pget rel0 ex
    refine ⟨e, x, es[j].key, es[j].val, ee, h2, ?_, ?_, hg⟩
    · rw [r1]; exact relV_key e3
    · rw [e4]; exact r2
  obtain ⟨H1, I2, gr, tk2⟩ := L2.DX.takeT (P := fun b ws => ∀ j, as[j]? = some b → ∃ (e : Key × Vl) (x : Key × V), kvs[j]? = some e ∧ (e.1 = x.1 ∧ Rep X.K ρ H e.2 x.2) ∧ ws = [kV x.1, x.2]) I as H I1 nd fun b hb => by
    obtain ⟨j, hj⟩ := List.mem_iff_getElem?.mp hb
    obtain ⟨e, x, kv, v, h2, h3, h4, h5, h6⟩ := pr j b hj
    refine ⟨Nat.le_of_lt (g.above b hb), I.hok.fresh (Nat.le_of_lt (g.above b hb)), [kV x.1, x.2], fun i hi => ?_, fun H2 => ⟨(show 2 ≤ sizeLine by rw [sizeLine_eq]; decide), [kv, v], .cons h4 (.cons h5 .nil), ⟨_, h6, rfl, _, rfl⟩⟩⟩
    have : i = j := (List.getElem?_inj (List.getElem?_eq_some_iff.mp hi).1 nd).mp (hi.trans hj.symm)
    subst this
    exact ⟨e, x, h2, h3, rfl⟩
  have gw : Grow X.K ρ H ρ H1 := Grow.more gr
  refine ⟨H1, ρ, kvs.map itemK, ds, I2, ?_, hds, hok, by rw [List.length_map]; omega, q H1 gr⟩
  have hkl : as.length = kvs.length := by omega
  refine PySem.W.EachIs.of_zip (by rw [List.length_map, List.length_map]; exact hkl) fun pq hpq => ?_
  obtain ⟨j, hj⟩ := List.mem_iff_getElem?.mp hpq
  rw [List.getElem?_zip_eq_some] at hj
  obtain ⟨j1, j2⟩ := hj
  rw [List.getElem?_map, Option.map_eq_some_iff] at j1 j2
  obtain ⟨b, hb, eb⟩ := j1
  obtain ⟨e, he, ee⟩ := j2
  obtain ⟨ws, hP, hH⟩ := tk2 b (List.mem_of_getElem? hb)
  obtain ⟨e', x, he', ⟨r1, r2⟩, rfl⟩ := hP j hb
  rw [he] at he'; cases he'
  refine ⟨.ref b, ?_, by rw [← eb]; rfl⟩
  rw [← ee]
  refine .tup (.inl (.inl hH)) (.cons ?_ (.cons (r2.grow gw) .nil))
  rw [r1]
  cases x.1 with
  | inl i => exact .int i
  | inr s => exact .str s
end
def rSrtItK (K : PySem.W.Frag) : List V → Hp → VK → Prop := fun us H Q => ∃ (p a : Addr) (ρ : List Addr) (kvs : List (Key × Vl)) (ks : List (Key × V)) (ds : List PyData), us = [.ref p] ∧ H p = some (L2.DX.itemsO p a) ∧ Rd H a (.dK ks) ∧ DRel K ρ H kvs ks ∧
  optAll (toK 10) (kvs.map itemK) = some ds ∧ srtOk ds = true ∧ ∀ H1, (∀ b o, H b = some o → H1 b = some o) → ∀ zs p, Reps K ρ H1 (srtV (kvs.map itemK)) zs → H1 p = none → Q (.ref p) (upd H1 p (.lst zs))
theorem cr_srtItA {X : Cx} (hc : X.calm = true) (hu : X.A.units + 65 < cLine) : CallR X (.builtin "sorted") (fun us H Q => rSrtIt X.K us H Q ∨ rSrtItK X.K us H Q) := by
  intro pins s σ H xs us Q I r h
  rcases h with h | h
  · exact cr_srtIt hc hu pins s σ H xs us Q I r h
  · obtain ⟨p, a, ρ, kvs, ks, ds, rfl, hp, hd, rel, h1, h2, q⟩ := h
    rw [Vals.ref1 r]
    exact srt_itemsK hc hu I hp hd rel h1 h2 q
theorem pe_srtItemsA {X : Cx} {o : Expr} {to : TE} {apos cpos p pos : Pos} (hc : X.calm = true) (hu : X.A.units + 65 < cLine) (hg : Gl X "sorted") (hm : X.mg "sorted" = none) (ho : PE X o to)
    (hbase : attributeBase o "items" X.env (eval o X.env) = eval o X.env) (hline : (apos.endLine == cpos.line) = true) :
    PE X (.Call (.Name "sorted" p) [.Call (.Attribute o "items" apos) [] [] cpos] [] pos) (tCB (fun us H Q => rSrtIt X.K us H Q ∨ rSrtItK X.K us H Q) (tCons (tDM0 X.K (fun x xs H Q => rItemsN X.K x xs H Q ∨ rItemsK x xs H Q) to) tNil)) :=
  pe_callB (cr_srtItA hc hu) hg hm (by decide +kernel) (pa_cons (pe_dm0 PySem.F.slot_dict_items PySem.F.type_dict_items mt_itemsA ho hbase hline) pa_nil rfl) (by decide) (by decide) rfl rfl
end PV

/-! min, max of a list by a lambda of one parameter -/
namespace PV
open PySem PySem.Spec PyProof.Rows L2
/-- a lambda called: its body is walked as a def's -/
theorem lam_run {P : Program} {w : World} {K : PySem.W.Frag} {mg : Str → Option Value} {base : Heap} {f c' : Addr} {name qual : Str} {params : Arguments} {body : Expr} {scope : Scope} {pm ctv : Value} {x : Str} {N : List Str} {A : Around} {outer : List Env} {s : Shared} {H : Hp} {v : V} {u : Value} {Q : VK} {E : XK} {k : Nat}
    (of1 : s.heap.get? f = some (PySem.W.kla_obj name qual params body scope [] pm c' ctv)) (S : FnScope N [x] scope) (hbind : bindArgs (PySem.W.kla_fn name qual params body scope [] pm (.ref c') ctv) ⟨[u], []⟩ = pure [(x, u)])
    (hc : ∃ (oc : Obj) (vs : Array Value) (t : Tok), s.heap.get? c' = some oc ∧ oc.data = .fields vs ∧ vs[1]? = some (.str qual t)) (hr : Room (k + 1) A) (e0 : Env0 P w K mg base A outer s H) (r : RelV v u)
    (hbody : Room k (A.deeper (envOfC qual scope s.heap.objs.size f (.ref c'))) → ∃ t, PE (cxOf CX0 P w K mg base N qual scope f (.ref c') A outer s H E) body t ∧ t (start N [v]) H Q) :
    codeAny (model P w) A (.call (.ref f) ⟨[u], []⟩) (CR CX0 outer P w H s Q E) s := by
  have inK : K.In s.heap := e0.mod.kin.keeps fun b o e => (e0.bs b o e).1
  have noL : s.heap.NoLimit := e0.mod.nolimit.keeps fun b o e => (e0.bs b o e).1
  have kinds : ∀ y ∈ [(x, u)], scope.names.lookup y.1 = some .local ∨ (scope.names.lookup y.1 = some .cell ∧ ((cellsFrom (s.heap.objs.size + 1) scope.names []).lookup y.1).isSome = true) := by
    intro y hy
    rw [List.mem_singleton] at hy
    subst hy
    cases S.par x (by simp) with
    | inl q => exact .inl q
    | inr q => exact .inr ⟨q, PySem.W.cellsFrom_some _ _ _ (.inl q)⟩
  obtain ⟨oc, vs, t, h1, h2, h3⟩ := hc
  refine PySem.W.kla_callFunE hr.depth of1 rfl S.co S.gen rfl ⟨c', oc, vs, t, rfl, h1, h2, h3⟩ ?_
  rw [hbind]
  refine wpAny_pure (wpAny_newFunctionEnv_cells S.kind kinds fun env he s1 x => ?_)
  subst he
  refine ⟨noL.keeps x.toInCall.keep, PySem.W.kla_codeExpr ?_⟩
  obtain ⟨t, ht, hq⟩ := hbody (hr.deeper _)
  have I : Inv (cxOf CX0 P w K mg base N qual scope f (.ref c') A outer s H E) [] (start N [v]) H s1 := inv_start S hr.hd e0 rfl (.cons r .nil) x
  refine wpAny_mono (ht.run [] s1 (start N [v]) H _ I hq) (fun fl s' hs => ?_) fun e s' hs => hs
  obtain ⟨v', H', J, rv, q⟩ := hs
  exact ⟨v', H', J.os, J.bare, J.base, J.hok, rv, q⟩
/-- all stands, but frames may have other slots -/
structure HKeep (fs : List Addr) (h h' : Heap) : Prop where
  keep : ∀ b o, h.get? b = some o → b ∉ fs → h'.get? b = some o
  slot : ∀ b o, h.get? b = some o → ∃ sl, h'.get? b = some { o with slots := sl }
theorem HKeep.refl {fs : List Addr} {h : Heap} : HKeep fs h h := ⟨fun _ _ e _ => e, fun b o e => ⟨o.slots, e⟩⟩
theorem HKeep.trans {fs : List Addr} {h h' h'' : Heap} (a : HKeep fs h h') (b : HKeep fs h' h'') : HKeep fs h h'' := ⟨fun c o e n => b.keep c o (a.keep c o e n) n, fun c o e => by
  obtain ⟨sl, e1⟩ := a.slot c o e
  obtain ⟨sl2, e2⟩ := b.slot c _ e1
  exact ⟨sl2, e2⟩⟩
theorem HKeep.of {fs : List Addr} {h h' : Heap} (k : ∀ b o, h.get? b = some o → h'.get? b = some o) : HKeep fs h h' := ⟨fun b o e _ => k b o e, fun b o e => ⟨o.slots, k b o e⟩⟩
section
variable {X : Cx} {pins : List (Addr × Obj)} {σ : L2.St} {H : Hp} {s : Shared}
/-- what stays while keys are made -/
structure KJ (X : Cx) (s s' : Shared) : Prop where
  os : s'.os = s.os
  bare : AllBare s'.gens
  hk : HKeep (frs X.stack) s.heap s'.heap
theorem KJ.hok {s' : Shared} (I : Inv X pins σ H s) (j : KJ X s s') : HOk X.prog X.w H s'.heap := fun b u e => by
  have hf : ∀ b ∈ frs X.stack, H b = none := I.env0.frf
  refine (I.hok b u e).stay (fun c v hc q => j.hk.keep c v q fun z => ?_) (fun _ q => q) fun _ _ q => q
  have hn := hf c z
  rcases hc with y | y
  · rw [y, e] at hn; cases hn
  · rw [y] at hn; cases hn
/-- behind it the invariant holds -/
theorem KJ.inv {s' : Shared} (I : Inv X pins σ H s) (j : KJ X s s') : Inv X pins σ H s' :=
  I.call' (ch := []) j.os ⟨fun b o e n nb _ => j.hk.keep b o e nb, fun b o e n _ _ => j.hk.slot b o e, fun b o e n _ => n, fun b o e _ => let ⟨_, z⟩ := j.hk.slot b o e; ⟨_, z⟩, fun _ _ h => h, fun _ _ _ h => h, fun b ps h => ⟨#[], by simpa using h⟩⟩ (j.hok I) j.bare (fun b z => absurd z (by simp))
/-- the key of an item: its part at j -/
def KeyAt (K : PySem.W.Frag) (H : Hp) (jj : Nat) (n : Int) (v : Value) : Prop := ∃ (a : Addr) (xs : List V), v = .ref a ∧ SqT K H a xs ∧ xs[jj]? = some (.int n)
/-- a lambda as it stands: x, x[j] -/
structure LamAt (X : Cx) (s : Shared) (f c' : Addr) (x : Str) (jj : Nat) (qual : Str) (params : Arguments) (body : Expr) (scope : Scope) (pm ctv : Value) : Prop where
  fn : s.heap.get? f = some (PySem.W.kla_obj "<lambda>" qual params body scope [] pm c' ctv)
  nf : f ∉ frs X.stack
  cd : ∃ (oc : Obj) (vs : Array Value) (t : Tok), s.heap.get? c' = some oc ∧ oc.data = .fields vs ∧ vs[1]? = some (.str qual t)
  nc : c' ∉ frs X.stack
/-- .. as it is written -/
structure LamW (x : Str) (jj : Nat) (params : Arguments) (body : Expr) (scope : Scope) : Prop where
  sc : FnScope [x] [x] scope
  bd : ∀ (q : Str) (pm cv ctv u : Value), bindArgs (PySem.W.kla_fn "<lambda>" q params body scope [] pm cv ctv) ⟨[u], []⟩ = pure [(x, u)]
  is : ∃ (p1 p2 p3 : Pos) (kd : Nat), body = .Subscript (.Name x p1) (.Constant (.int jj) kd p2) p3
  vis : Vis scope x
  nm : (x == ("__debug__" : Str)) = false ∧ (x == ("__classdict__" : Str)) = false
/-- a heap in which the item alone is known -/
theorem item_heap {P : Program} {w : World} {K : PySem.W.Frag} {H : Hp} {h : Heap} {a : Addr} {xs : List V} (ok : HOk P w H h) (q : SqT K H a xs) :
    ∃ H2 : Hp, HOk P w H2 h ∧ (∀ b u, H2 b = some u → b = a ∧ (∃ o, u = .frz o (.tup xs)) ∧ H b ≠ none) ∧ SqT K H2 a xs := by
  have one : ∀ o, h.get? a = some o → ObjOk P w H h a (.tup xs) → H a ≠ none → ∃ H2 : Hp, HOk P w H2 h ∧ (∀ b u, H2 b = some u → b = a ∧ (∃ o, u = .frz o (.tup xs)) ∧ H b ≠ none) ∧ SqT K H2 a xs := fun o ho hok hn => by
    refine ⟨fun b => if b = a then some (.frz o (.tup xs)) else none, fun b u e => ?_, fun b u e => ?_, .inl (.inr ⟨o, if_pos rfl⟩)⟩
    · by_cases hb : b = a
      · have e : (if b = a then some (HO.frz o (.tup xs)) else none) = some u := e
        rw [if_pos hb] at e
        have e := Option.some.inj e
        rw [← e, hb]
        exact ⟨ho, hok⟩
      · have e : (if b = a then some (HO.frz o (.tup xs)) else none) = some u := e
        rw [if_neg hb] at e
        cases e
    · by_cases hb : b = a
      · have e : (if b = a then some (HO.frz o (.tup xs)) else none) = some u := e
        rw [if_pos hb] at e
        have e := Option.some.inj e
        exact ⟨hb, ⟨o, e.symm⟩, by rw [hb]; exact hn⟩
      · have e : (if b = a then some (HO.frz o (.tup xs)) else none) = some u := e
        rw [if_neg hb] at e
        cases e
  rcases q with (q | ⟨o, q⟩) | q
  · have hq := ok a _ q
    obtain ⟨z, its, rv, o, ho, r⟩ := id hq
    exact one o ho hq (by rw [q]; simp)
  · have hq := ok a _ q
    exact one o hq.1 hq.2 (by rw [q]; simp)
  · refine ⟨fun _ => none, fun b u e => ?_, fun b u e => ?_, .inr q⟩
    · cases e
    · cases e
theorem key_call {s0 s : Shared} {f c' : Addr} {x : Str} {jj : Nat} {qual : Str} {params : Arguments} {body : Expr} {scope : Scope} {pm ctv : Value} {n : Int} {v : Value} {R : Value → Shared → Prop} {E : Value → Shared → Prop} {A : Around} (I : Inv X pins σ H s0) (j : KJ X s0 s) (hsz : s0.heap.objs.size ≤ s.heap.objs.size) (L : LamAt X s0 f c' x jj qual params body scope pm ctv) (W : LamW x jj params body scope)
    (hr : Room 1 A) (hA : A.frames = some X.stack) (hk : KeyAt X.K H jj n v) (h : ∀ (t : Tok) s', s'.os = s.os → AllBare s'.gens → HKeep (frs X.stack) s.heap s'.heap → R (.int n t) s') :
    wpAny (model X.prog X.w) A (call (.ref f) [v]) R E s := by
  obtain ⟨a, xs, rfl, hq, hn⟩ := hk
  obtain ⟨H2, ok2, only, q2⟩ := item_heap (j.hok I) hq
  have e0 := I.env0
  have nof : ∀ b o, X.base.get? b = some o → b ∉ frs X.stack := fun b o e z => by
    have := (e0.funs.mem z).1
    rw [this] at e
    cases e
  have none2 : ∀ b, H b = none → H2 b = none := fun b e => by
    cases z : H2 b with
    | none => rfl
    | some u => exact absurd e (only b u z).2.2
  have e2 : Env0 X.prog X.w X.K X.mg X.base A X.stack s H2 := ⟨hA, e0.mod, fun b o e => ⟨j.hk.keep b o (e0.bs b o e).1 (nof b o e), none2 b (e0.bs b o e).2⟩, Nat.le_trans e0.bsz hsz, e0.funs.of_keeps fun b o hb hnf => by
    obtain ⟨sl, z⟩ := j.hk.slot b o hb
    exact ⟨_, z, rfl⟩, fun b hb => none2 b (e0.frf b hb), ok2, j.bare⟩
  have cd2 : ∃ (oc : Obj) (vs : Array Value) (t : Tok), s.heap.get? c' = some oc ∧ oc.data = .fields vs ∧ vs[1]? = some (.str qual t) := by
    obtain ⟨oc, vs, t, h1, h2, h3⟩ := L.cd
    exact ⟨oc, vs, t, j.hk.keep _ _ h1 L.nc, h2, h3⟩
  obtain ⟨p1, p2, p3, kd, hb⟩ := W.is
  subst hb
  refine wpAny_call (codeAny_mono (lam_run (k := 0) (N := [x]) (H := H2) (v := .ref a) (Q := fun v' _ => v' = .int n) (E := fun _ _ _ => False) (j.hk.keep _ _ L.fn L.nf) W.sc (W.bd _ _ _ _ _) cd2 hr e2 rfl fun hr' => ⟨_, pe_ix ix_tup (pe_var (i := 0) rfl W.vis W.nm.1 W.nm.2) pe_int (by intro o i; rfl), ⟨V.ref a, rfl, a, xs, (jj : Int), .int n, rfl, rfl, q2, by rw [atI_nat]; exact hn, rfl⟩⟩) fun res s' hq => ?_)
  match res, hq with
  | .ok (.ret u), hq =>
    obtain ⟨v', H', os, bare, un, hok', r, q⟩ := hq
    have q : v' = .int n := q
    subst q
    obtain ⟨t, rfl⟩ := r
    refine h t s' os bare ⟨fun b o e nb => ?_, fun b o e => ?_⟩
    · cases z : H2 b with
      | none => exact un.keep b o e z nb (by simp)
      | some u =>
        obtain ⟨_, ⟨o', rfl⟩, _⟩ := only b u z
        have z1 := (ok2 b _ z).1
        have z2 := (hok' b _ (un.frzs b _ _ z)).1
        rw [e] at z1
        cases z1
        exact z2
    · cases z : H2 b with
      | none => exact un.any e z (by simp)
      | some u =>
        obtain ⟨_, ⟨o', rfl⟩, _⟩ := only b u z
        have z1 := (ok2 b _ z).1
        have z2 := (hok' b _ (un.frzs b _ _ z)).1
        rw [e] at z1
        cases z1
        exact ⟨o.slots, z2⟩
  | .ok .next, hq => exact False.elim hq
  | .ok .brk, hq => exact False.elim hq
  | .ok .cont, hq => exact False.elim hq
  | .error _, hq => exact False.elim hq
theorem frame_old (I : Inv X pins σ H s) {b : Addr} (h : b ∈ frs X.stack) : b < s.heap.objs.size := by
  obtain ⟨_, o, ho, _⟩ := I.env0.funs.mem h
  exact Heap.lt_size ho
section
variable {l f c' : Addr} {vs : Array Value} {x : Str} {jj : Nat} {qual : Str} {params : Arguments} {body : Expr} {scope : Scope} {pm ctv : Value} {kz : Nat → Int} {R : Value → Shared → Prop}
theorem key_runs {op : CmpOp} {bt : Nat → Nat → Bool} (hop : (op = .Lt ∧ bt = fun i j => decide (kz i < kz j)) ∨ (op = .Gt ∧ bt = fun i j => decide (kz i > kz j))) (I : Inv X pins σ H s) (hr : Room 1 X.A.in1) (nl : l ∉ frs X.stack) (L : LamAt X s f c' x jj qual params body scope pm ctv) (W : LamW x jj params body scope)
    (items : ∀ (i : Nat) v, vs[i]? = some v → KeyAt X.K H jj (kz i) v) {S : Addr} (hS : s.heap.objs.size < S) :
    KeyRun X.prog X.w X.A.in1 (.ref f) op S [s.heap.objs.size] (fun a b => b = a) vs.size (fun i v => vs[i]? = some v) (fun i s' => s'.heap.IsListIter s.heap.objs.size l i ∧ s'.heap.IsList l vs) (KJ X s) (fun i k _ => ∃ t, k = .int (kz i) t) bt := by
  refine ⟨fun s1 s2 j m => ?_, fun _ _ _ _ h _ => h, fun i v s1 o Q E hi hP j hst hSo hQ => ?_, fun i j ki kj s1 Q E _ hi hj hq => ?_⟩
  · have kp : ∀ b o, s.heap.get? b = some o → ∀ o', s1.heap.get? b = some o' → s2.heap.get? b = some o' := fun b o e o' e' => m.heap b o' (fun z => by
      have lt : b < s.heap.objs.size := Heap.lt_size e
      rcases List.mem_cons.mp z with z | z
      · exact absurd lt (Nat.not_lt.mpr (by rw [z]; exact Nat.le_of_lt hS))
      · rw [List.mem_singleton.mp z] at lt
        exact Nat.lt_irrefl _ lt) e'
    refine ⟨m.os.trans j.os, by rw [show s2.gens = s1.gens from m.gens]; exact j.bare, fun b o e nb => kp b o e _ (j.hk.keep b o e nb), fun b o e => ?_⟩
    obtain ⟨sl, z⟩ := j.hk.slot b o e
    exact ⟨sl, kp b o e _ z⟩
  · have hz : s.heap.objs.size ≤ s1.heap.objs.size := Nat.le_of_lt (Nat.lt_trans hS (Heap.lt_size hSo))
    refine key_call I j hz L W hr (I.ok.frames) (items i v hP) fun t s' os bare hk => ?_
    have nS : S ∉ frs X.stack := fun z => absurd (frame_old I z) (Nat.not_lt.mpr (Nat.le_of_lt hS))
    have nI : s.heap.objs.size ∉ frs X.stack := fun z => Nat.lt_irrefl _ (frame_old I z)
    obtain ⟨⟨oi, e1, e2⟩, ol, e3, e4⟩ := hst
    exact hQ _ s' ⟨os.trans j.os, bare, j.hk.trans hk⟩ ⟨⟨oi, hk.keep _ _ e1 nI, e2⟩, ol, hk.keep _ _ e3 nl, e4⟩ (hk.keep _ _ hSo nS) ⟨t, rfl⟩ fun _ _ h => h
  · obtain ⟨t1, rfl⟩ := hi
    obtain ⟨t2, rfl⟩ := hj
    rcases hop with ⟨rfl, rfl⟩ | ⟨rfl, rfl⟩
    · show wpAny _ _ (compareOp .Lt (.int _ _) (.int _ _)) _ _ _
      exact wpAny_lt_int hq
    · show wpAny _ _ (compareOp .Gt (.int _ _) (.int _ _)) _ _ _
      exact gt_int hq
theorem min_lam (I : Inv X pins σ H s) (hc : X.calm = true) (hr : Room 2 X.A) (hl : s.heap.IsList l vs) (nl : l ∉ frs X.stack) (L : LamAt X s f c' x jj qual params body scope pm ctv) (W : LamW x jj params body scope) (hn : 0 < vs.size)
    (items : ∀ (i : Nat) v, vs[i]? = some v → KeyAt X.K H jj (kz i) v) (h : ∀ v s', vs[argBest (fun i j => decide (kz i < kz j)) (vs.size - 1)]? = some v → KJ X s s' → R v s') :
    wpAny (model X.prog X.w) X.A (call (.builtin "min") [.ref l] [(Str.ofString "key", .ref f)]) R X.xe s := by
  refine call_min_walkK (PySem.W.iter_listW (A := X.A.in1) (I.ok.hd hc) hl fun s₂ e W' st hfp hw hk => ?_)
  have hS : s.heap.objs.size < s₂.heap.objs.size := hfp _ List.mem_cons_self
  refine ⟨_, _, _, _, _, _, _, KJ X s, _, _, rfl, W', st, hfp, hn, key_runs (.inl ⟨rfl, rfl⟩) I hr.in1 nl L W items hS, ?_, fun v s' hP j => h v s' hP j⟩
  subst e
  exact ⟨rfl, I.bare, HKeep.of hk⟩
theorem max_lam (I : Inv X pins σ H s) (hc : X.calm = true) (hr : Room 2 X.A) (hl : s.heap.IsList l vs) (nl : l ∉ frs X.stack) (L : LamAt X s f c' x jj qual params body scope pm ctv) (W : LamW x jj params body scope) (hn : 0 < vs.size)
    (items : ∀ (i : Nat) v, vs[i]? = some v → KeyAt X.K H jj (kz i) v) (h : ∀ v s', vs[argBest (fun i j => decide (kz i > kz j)) (vs.size - 1)]? = some v → KJ X s s' → R v s') :
    wpAny (model X.prog X.w) X.A (call (.builtin "max") [.ref l] [(Str.ofString "key", .ref f)]) R X.xe s := by
  refine call_max_walkK (PySem.W.iter_listW (A := X.A.in1) (I.ok.hd hc) hl fun s₂ e W' st hfp hw hk => ?_)
  have hS : s.heap.objs.size < s₂.heap.objs.size := hfp _ List.mem_cons_self
  refine ⟨_, _, _, _, _, _, _, KJ X s, _, _, rfl, W', st, hfp, hn, key_runs (.inr ⟨rfl, rfl⟩) I hr.in1 nl L W items hS, ?_, fun v s' hP j => h v s' hP j⟩
  subst e
  exact ⟨rfl, I.bare, HKeep.of hk⟩
end
end
/-! ### the making of a lambda: the table's codes are frozen -/
section
variable {X : Cx} {pins : List (Addr × Obj)} {σ : L2.St} {H : Hp} {s : Shared}
theorem inv_tableF {P c : Addr} {q : Str} {oc : Obj} {ps more : Array Value} {h' : Heap} {t' : Nat} (I : Inv X pins σ H s) (hP : H P = some (.tbl ps)) (k : ∀ b o, b ≠ P → s.heap.get? b = some o → h'.get? b = some o)
    (hm : h'.get? P = some { cls := .none, data := .fields (ps ++ more) }) (hc : s.heap.objs.size ≤ c) (ho1 : h'.get? c = some oc) (ho : ∃ (vs : Array Value) (t : Tok), oc.data = .fields vs ∧ vs[1]? = some (.str q t)) :
    Inv X pins σ (upd (upd H P (.tbl (ps ++ more))) c (.frz oc (LamX.CodeO c q))) { s with heap := h', toks := t' } := by
  have nC : H c = none := I.hok.fresh hc
  have nPc : P ≠ c := ne_of_none hP nC
  have at_ : ∀ b, b ≠ P → b ≠ c → upd (upd H P (.tbl (ps ++ more))) c (.frz oc (LamX.CodeO c q)) b = H b := fun b h1 h2 => by rw [upd_ne h2, upd_ne h1]
  have atP : upd (upd H P (.tbl (ps ++ more))) c (.frz oc (LamX.CodeO c q)) P = some (.tbl (ps ++ more)) := by rw [upd_ne nPc, upd_same]
  have nP : ∀ b u, H b = some u → (∀ q, u ≠ .tbl q) → b ≠ P := fun b u e q z => by
    rw [z, hP] at e
    exact q ps (Option.some.inj e).symm
  have nN : ∀ b, H b = none → b ≠ P := fun b e z => by
    rw [z, hP] at e
    cases e
  have lt' : ∀ b o, s.heap.get? b = some o → b ≠ c := fun b o e z => by
    rw [z] at e
    exact Nat.lt_irrefl _ (Nat.lt_of_lt_of_le (Heap.lt_size e) hc)
  have sm : ∀ b u, H b = some u → b ≠ c := fun b u e => ne_of_none e nC
  refine I.step (g' := s.gens) (d' := s.drawn) (ch := []) (fun b hb => absurd hb (by simp)) (fun b o _ _ _ e n => k b o (nN b n) e) (fun b o _ _ _ e n => ⟨o.slots, k b o (nN b n) e⟩)
    (fun b o _ e n => by rw [at_ b (nN b n) (lt' b o e)]; exact n) (fun b o _ e => ?_) (fun b xs e => by rw [at_ b (nP b _ e (fun q z => by cases z)) (sm b _ e)]; exact e) (fun b o u e => by rw [at_ b (nP b _ e (fun q z => by cases z)) (sm b _ e)]; exact e) (fun b qs e => ?_) (fun m hn => ?_) (fun b u e => ?_) I.bare
  · by_cases hb : b = P
    · rw [hb]
      exact ⟨_, hm⟩
    · exact ⟨o, k b o hb e⟩
  · by_cases hb : b = P
    · rw [hb, hP] at e
      cases e
      rw [hb, atP]
      exact ⟨more, rfl⟩
    · rw [at_ b hb (sm b _ e), e]
      exact ⟨#[], by simp⟩
  · obtain ⟨ob, es, ep, ho, r⟩ := hn
    exact ⟨ob, es, ep, k _ ob (nN _ I.free) ho, r⟩
  · by_cases hb : b = c
    · rw [hb, upd_same] at e
      cases e
      rw [hb]
      obtain ⟨vs, t, e2, e3⟩ := ho
      exact ⟨ho1, ⟨oc, vs, t, ho1, e2, e3⟩, ⟨oc, ho1⟩, fun h1 h2 ⟨oc, vs, t, a, b, c⟩ st => ⟨oc, vs, t, st _ a, b, c⟩⟩
    · by_cases hb2 : b = P
      · rw [hb2, atP] at e
        cases e
        rw [hb2]
        exact hm
      · rw [at_ b hb2 hb] at e
        refine (I.hok b u e).stay (fun d v hd q => k d v ?_ q) (fun d q => by rw [at_ d (nP d _ q (fun q z => by cases z)) (sm d _ q)]; exact q) fun d xs q => by rw [at_ d (nP d _ q (fun q z => by cases z)) (sm d _ q)]; exact q
        rcases hd with z | z
        · rw [z]
          exact hb2
        · exact nP d _ z (fun q z => by cases z)
/-- the lambda is made: its code object is new, or found in the table -/
theorem lam_makeF {c P : Addr} {params : Arguments} {body : Expr} {scope : Scope} {pos : Pos} {E : Value → Shared → Prop} {Q : Value → Shared → Prop} (I : Inv X pins σ H s) (TB : LamX.TabB X.base X.mg c P) (hcode : X.env.code = .ref c)
    (hT : TabF H P (X.env.qual ++ "<lambda>")) (hdef : defaultsOf params X.env = ([], [])) (hfree : ∀ y ∈ scope.names, y.2 = .free → ∃ c, X.env.cells.lookup y.1 = some c)
    (h : ∀ (f c' : Addr) (oc : Obj) (pm ctv : Value) (H1 : Hp) (s' : Shared), Inv X pins σ H1 s' → (∀ b o, H b = some o → b ≠ P → H1 b = some o) → TabF H1 P (X.env.qual ++ "<lambda>") →
      s'.heap.get? f = some (PySem.W.kla_obj "<lambda>" (X.env.qual ++ "<lambda>") params body scope (cloFrom X.env.cells scope.names []) pm c' ctv) → f ∉ frs X.stack → H1 c' = some (.frz oc (LamX.CodeO c' (X.env.qual ++ "<lambda>"))) → Q (.ref f) s') :
    wpAny (model X.prog X.w) X.A (eval (.Lambda params body scope pos) X.env) Q E s := by
  obtain ⟨ps, hP, ht, ha⟩ := hT
  refine PySem.W.kla_eval hdef ?_
  have bP : s.heap.BuiltinsAt X.mg P := TB.bm.keeps I.bk
  have hP' : s.heap.get? P = some { cls := .none, data := .fields ps } := I.hok P _ hP
  have nofr : ∀ f, s.heap.objs.size ≤ f → f ∉ frs X.stack := fun f hf z => Nat.lt_irrefl _ (Nat.lt_of_lt_of_le (frame_old I z) hf)
  cases hc : codeAmong pos ps.toList with
  | none =>
    refine PySem.W.kla_makeFunction (mg := X.mg) (c := c) (P := P) (ps := ps) (closure_ok hfree) I.ok.glob (I.mod.glob.keeps I.bk) hcode (TB.code.keeps I.bk) hP' ht hc TB.gP bP fun c' ctv h' tk hx hge hlt hrec htb => ?_
    obtain ⟨c2, oc, vs, t, e2, hoc, hd, hv⟩ := hrec
    cases e2
    have hsz : s.heap.objs.size ≤ h'.objs.size := Nat.le_trans hge (Nat.le_of_lt hlt)
    have nC : H c' = none := I.hok.fresh hge
    have I1 := inv_tableF (t' := tk) (more := #[rawInt pos.line, rawInt pos.col, .ref c']) (h' := h'.push (PySem.W.kla_obj "<lambda>" (X.env.qual ++ "<lambda>") params body scope (cloFrom X.env.cells scope.names []) ((X.mg "__name__").getD .none) c' ctv)) I hP
      (fun b o hb e => Heap.get?_push_of_some _ (hx b o hb e)) (Heap.get?_push_of_some _ htb) hge (Heap.get?_push_of_some _ hoc) ⟨vs, t, hd, hv⟩
    have hE : ∀ b o, H b = some o → b ≠ P → (upd (upd H P (.tbl (ps ++ #[rawInt pos.line, rawInt pos.col, .ref c']))) c' (.frz oc (LamX.CodeO c' (X.env.qual ++ "<lambda>")))) b = some o := fun b o e n => by
      rw [upd_ne (ne_of_none e nC), upd_ne n]
      exact e
    have eL : (ps ++ #[rawInt pos.line, rawInt pos.col, .ref c']).toList = ps.toList ++ [rawInt pos.line, rawInt pos.col, .ref c'] := by simp
    refine h h'.objs.size c' oc ((X.mg "__name__").getD .none) ctv _ _ I1 hE ⟨_, by rw [upd_ne (ne_of_none hP nC), upd_same], by rw [eL]; exact PySem.TriplesOk_snoc _ _ _ _ ht, fun p' cv hcv => ?_⟩ (Heap.get?_push_size _ rfl) (nofr _ hsz) upd_same
    rw [eL] at hcv
    rcases LamX.among_app _ ht hcv with z | z
    · obtain ⟨c0, o0, e1, e2⟩ := ha p' cv z
      exact ⟨c0, o0, e1, hE _ _ e2 (fun y => by rw [y, hP] at e2; cases e2)⟩
    · exact ⟨c', oc, z, upd_same⟩
  | some cv =>
    obtain ⟨c', oc, e, hco⟩ := ha pos cv hc
    subst e
    refine PySem.W.kla_makeFunctionHit (mg := X.mg) (c := c) (P := P) (ps := ps) (closure_ok hfree) I.ok.glob (I.mod.glob.keeps I.bk) hcode (TB.code.keeps I.bk) hP' ht hc bP fun ctv h' tk hx hsz => ?_
    have I1 : Inv X pins σ H { s with heap := h'.push (PySem.W.kla_obj "<lambda>" (X.env.qual ++ "<lambda>") params body scope (cloFrom X.env.cells scope.names []) ((X.mg "__name__").getD .none) c' ctv), toks := tk } := I.kept fun b o e => Heap.get?_push_of_some _ (hx b o e)
    exact h h'.objs.size c' oc ((X.mg "__name__").getD .none) ctv H _ I1 (fun _ _ e _ => e) ⟨ps, hP, ht, ha⟩ (Heap.get?_push_size _ rfl) (nofr _ hsz) hco
end
/-! ### min(e, key=lambda x: x[j]), max(..) -/
def KeyP (K : PySem.W.Frag) (P : Addr) (q : Str) (jj : Nat) (bt : Int → Int → Bool) (Q : VK) (x : V) (H1 : Hp) : Prop := ∃ (l : Addr) (xs : List V) (kz : Nat → Int), x = .ref l ∧ H1 l = some (.lst xs) ∧ 0 < xs.length ∧ (∀ (i : Nat) v, xs[i]? = some v → ∃ (a : Addr) (ys : List V), v = .ref a ∧ SqT K H1 a ys ∧ ys[jj]? = some (.int (kz i))) ∧ TabF H1 P q ∧
  ∀ H2, (∀ b o, H1 b = some o → b ≠ P → H2 b = some o) → TabF H2 P q → ∀ v, xs[argBest (fun i j => bt (kz i) (kz j)) (xs.length - 1)]? = some v → Q v H2
def tKey (K : PySem.W.Frag) (P : Addr) (q : Str) (jj : Nat) (bt : Int → Int → Bool) (te : TE) : TE := fun σ H Q => te σ H (KeyP K P q jj bt Q)
def KeyM (K : PySem.W.Frag) (P : Addr) (q : Str) (jj : Nat) (bt : Int → Int → Bool) (Q : VK) : List V → Hp → Prop
  | [v], H1 => KeyP K P q jj bt Q v H1
  | _, _ => False
section
variable {X : Cx} {e : Expr} {te : TE} {x : Str} {jj : Nat} {params : Arguments} {body : Expr} {scope : Scope} {p lpos kpos pos : Pos} {c P : Addr}
theorem key_mid {pins : List (Addr × Obj)} {σ : L2.St} {H1 H2 : Hp} {s2 : Shared} {l f c' : Addr} {oc : Obj} {pm ctv : Value} {xs : List V} {kz : Nat → Int} {q : Str} (I2 : Inv X pins σ H2 s2) (hl : H1 l = some (.lst xs)) (hn : 0 < xs.length) (it : ∀ (i : Nat) v, xs[i]? = some v → ∃ (a : Addr) (ys : List V), v = .ref a ∧ SqT X.K H1 a ys ∧ ys[jj]? = some (.int (kz i)))
    (hT1 : TabF H1 P q) (hx : ∀ b o, H1 b = some o → b ≠ P → H2 b = some o) (hcl : cloFrom X.env.cells scope.names [] = []) (hf : s2.heap.get? f = some (PySem.W.kla_obj "<lambda>" q params body scope (cloFrom X.env.cells scope.names []) pm c' ctv)) (nf : f ∉ frs X.stack) (hc : H2 c' = some (.frz oc (LamX.CodeO c' q))) :
    ∃ its : List Value, Vals xs its ∧ s2.heap.IsList l its.toArray ∧ l ∉ frs X.stack ∧ LamAt X s2 f c' x jj q params body scope pm ctv ∧ 0 < its.toArray.size ∧ ∀ (i : Nat) v, its.toArray[i]? = some v → KeyAt X.K H2 jj (kz i) v := by
  obtain ⟨ps, hP, _⟩ := hT1
  have nlP : ∀ b o, H1 b = some o → (∀ ps, o ≠ .tbl ps) → b ≠ P := fun b o e n z => by
    rw [z, hP] at e
    exact n ps (Option.some.inj e).symm
  have hl2 : H2 l = some (.lst xs) := hx l _ hl (nlP l _ hl fun _ z => by cases z)
  have hfr := I2.env0.frf
  obtain ⟨its, rv, pl, hz⟩ := I2.list (.inl (.inl hl2))
  have nl : l ∉ frs X.stack := fun z => by
    have q := hfr l z
    rw [hl2] at q
    cases q
  have nc : c' ∉ frs X.stack := fun z => by
    have q := hfr c' z
    rw [hc] at q
    cases q
  rw [hcl] at hf
  refine ⟨its, rv, pl.isList, nl, ⟨hf, nf, (I2.hok c' _ hc).2.1, nc⟩, ?_, fun i v hv => ?_⟩
  · have := rv.length
    simp only [List.size_toArray]
    omega
  have hv : its[i]? = some v := by simpa using hv
  obtain ⟨w, h1, h2⟩ : ∃ w, xs[i]? = some w ∧ RelV w v := by
    have hi : i < xs.length := by rw [rv.length]; exact (List.getElem?_eq_some_iff.mp hv).1
    obtain ⟨u, e1, e2⟩ := rv.get (List.getElem?_eq_getElem hi)
    rw [hv] at e1
    cases e1
    exact ⟨_, List.getElem?_eq_getElem hi, e2⟩
  obtain ⟨a, ys, rfl, hq, hj⟩ := it i w h1
  cases (show v = Value.ref a from h2)
  refine ⟨a, ys, rfl, ?_, hj⟩
  rcases hq with (hq | ⟨o, hq⟩) | hq
  · exact .inl (.inl (hx a _ hq (nlP a _ hq fun _ z => by cases z)))
  · exact .inl (.inr ⟨o, hx a _ hq (nlP a _ hq fun _ z => by cases z)⟩)
  · exact .inr hq
theorem pe_minKey (hc : X.calm = true) (hr : Room 2 X.A) (hg : Gl X "min") (hm : X.mg "min" = none) (ha : PE X e te) (TB : LamX.TabB X.base X.mg c P) (hcode : X.env.code = .ref c) (hdef : defaultsOf params X.env = ([], [])) (W : LamW x jj params body scope) (hnm : scope.names = [(x, .local)])
    (he : starEach [e] X.env = (false, eval e X.env) :: starEach [] X.env) :
    PE X (.Call (.Name "min" p) [e] [⟨some "key", .Lambda params body scope lpos, kpos⟩] pos) (tKey X.K P (X.env.qual ++ "<lambda>") jj (fun a b => decide (a < b)) te) := by
  refine ⟨fun pins s σ H Q I h => ?_⟩
  refine wpAny_Call_Name_kw (ld_blt (u := .builtin "min") I hg hm (by decide +kernel) ?_ (by decide) (by decide))
  refine PyProof.Rows.callWith_kw (thn ((pa_cons ha pa_nil he).run pos pins s σ H (KeyM X.K P (X.env.qual ++ "<lambda>") jj (fun a b => decide (a < b)) Q) I h) fun us s1 ⟨vs, H1, I1, r1, q1⟩ => ?_) (by rw [he]; rfl) (by rw [he]; rfl) (by rfl) (by rfl)
  match vs, q1, r1 with
  | [_], ⟨l, xs, kz, rfl, hl, hn, it, hT1, fin⟩, r1 =>
    obtain ⟨u, rfl, ru⟩ : ∃ u, us = [u] ∧ RelV (.ref l) u := by
      cases r1 with
      | cons a b => cases b; exact ⟨_, rfl, a⟩
    cases (show u = Value.ref l from ru)
    have hfree : ∀ y ∈ scope.names, y.2 = .free → ∃ c, X.env.cells.lookup y.1 = some c := fun y hy e => by
      rw [hnm] at hy
      cases List.mem_singleton.mp hy
      cases e
    have hcl : cloFrom X.env.cells scope.names [] = [] := by rw [hnm]; rfl
    refine wpAny_evalAll_cons (x := eval (.Lambda params body scope lpos) X.env >>= fun v => standAt pos >>= fun _ => pure v) (rest := []) (wpAny_bind (lam_makeF I1 TB hcode hT1 hdef hfree fun f c' oc pm ctv H2 s2 I2 hx hT2 hf nf hc2 => wpAny_bind (wpAny_standAt (wpAny_pure (wpAny_evalAll_nil ?_)))))
    obtain ⟨its, rv, hL, nl, L, hn2, ki⟩ := key_mid I2 hl hn it hT1 hx hcl hf nf hc2
    refine min_lam I2 hc hr hL nl L W hn2 ki fun v s3 hv j => ?_
    have hsz : its.toArray.size = xs.length := by rw [List.size_toArray, rv.length]
    rw [hsz] at hv
    have hv : its[argBest (fun i j => decide (kz i < kz j)) (xs.length - 1)]? = some v := by simpa using hv
    obtain ⟨w, h1, h2⟩ : ∃ w, xs[argBest (fun i j => decide (kz i < kz j)) (xs.length - 1)]? = some w ∧ RelV w v := by
      have hi : argBest (fun i j => decide (kz i < kz j)) (xs.length - 1) < xs.length := Nat.lt_of_lt_of_eq (List.getElem?_eq_some_iff.mp hv).1 rv.length.symm
      obtain ⟨u, e1, e2⟩ := rv.get (List.getElem?_eq_getElem hi)
      rw [hv] at e1
      cases e1
      exact ⟨_, List.getElem?_eq_getElem hi, e2⟩
    exact ⟨w, H2, KJ.inv I2 j, h2, fin H2 hx hT2 w h1⟩
theorem pe_maxKey (hc : X.calm = true) (hr : Room 2 X.A) (hg : Gl X "max") (hm : X.mg "max" = none) (ha : PE X e te) (TB : LamX.TabB X.base X.mg c P) (hcode : X.env.code = .ref c) (hdef : defaultsOf params X.env = ([], [])) (W : LamW x jj params body scope) (hnm : scope.names = [(x, .local)])
    (he : starEach [e] X.env = (false, eval e X.env) :: starEach [] X.env) :
    PE X (.Call (.Name "max" p) [e] [⟨some "key", .Lambda params body scope lpos, kpos⟩] pos) (tKey X.K P (X.env.qual ++ "<lambda>") jj (fun a b => decide (a > b)) te) := by
  refine ⟨fun pins s σ H Q I h => ?_⟩
  refine wpAny_Call_Name_kw (ld_blt (u := .builtin "max") I hg hm (by decide +kernel) ?_ (by decide) (by decide))
  refine PyProof.Rows.callWith_kw (thn ((pa_cons ha pa_nil he).run pos pins s σ H (KeyM X.K P (X.env.qual ++ "<lambda>") jj (fun a b => decide (a > b)) Q) I h) fun us s1 ⟨vs, H1, I1, r1, q1⟩ => ?_) (by rw [he]; rfl) (by rw [he]; rfl) (by rfl) (by rfl)
  match vs, q1, r1 with
  | [_], ⟨l, xs, kz, rfl, hl, hn, it, hT1, fin⟩, r1 =>
    obtain ⟨u, rfl, ru⟩ : ∃ u, us = [u] ∧ RelV (.ref l) u := by
      cases r1 with
      | cons a b => cases b; exact ⟨_, rfl, a⟩
    cases (show u = Value.ref l from ru)
    have hfree : ∀ y ∈ scope.names, y.2 = .free → ∃ c, X.env.cells.lookup y.1 = some c := fun y hy e => by
      rw [hnm] at hy
      cases List.mem_singleton.mp hy
      cases e
    have hcl : cloFrom X.env.cells scope.names [] = [] := by rw [hnm]; rfl
    refine wpAny_evalAll_cons (x := eval (.Lambda params body scope lpos) X.env >>= fun v => standAt pos >>= fun _ => pure v) (rest := []) (wpAny_bind (lam_makeF I1 TB hcode hT1 hdef hfree fun f c' oc pm ctv H2 s2 I2 hx hT2 hf nf hc2 => wpAny_bind (wpAny_standAt (wpAny_pure (wpAny_evalAll_nil ?_)))))
    obtain ⟨its, rv, hL, nl, L, hn2, ki⟩ := key_mid I2 hl hn it hT1 hx hcl hf nf hc2
    refine max_lam I2 hc hr hL nl L W hn2 ki fun v s3 hv j => ?_
    have hsz : its.toArray.size = xs.length := by rw [List.size_toArray, rv.length]
    rw [hsz] at hv
    have hv : its[argBest (fun i j => decide (kz i > kz j)) (xs.length - 1)]? = some v := by simpa using hv
    obtain ⟨w, h1, h2⟩ : ∃ w, xs[argBest (fun i j => decide (kz i > kz j)) (xs.length - 1)]? = some w ∧ RelV w v := by
      have hi : argBest (fun i j => decide (kz i > kz j)) (xs.length - 1) < xs.length := Nat.lt_of_lt_of_eq (List.getElem?_eq_some_iff.mp hv).1 rv.length.symm
      obtain ⟨u, e1, e2⟩ := rv.get (List.getElem?_eq_getElem hi)
      rw [hv] at e1
      cases e1
      exact ⟨_, List.getElem?_eq_getElem hi, e2⟩
    exact ⟨w, H2, KJ.inv I2 j, h2, fin H2 hx hT2 w h1⟩
end
/-! ### by the small language's meaning -/
theorem optAll_at {α β : Type} {f : α → Option β} : ∀ {vs : List α} {ks : List β} {i : Nat} {v : α}, optAll f vs = some ks → vs[i]? = some v → ∃ k, ks[i]? = some k ∧ f v = some k
  | [], _, _, _, _, e => by simp at e
  | u :: vs, ks, i, v, h, e => by
    unfold optAll at h
    split at h
    · rename_i b bs e1 e2
      cases h
      cases i with
      | zero => simp at e; subst e; exact ⟨b, rfl, e1⟩
      | succ i =>
        obtain ⟨k, h1, h2⟩ := optAll_at (i := i) (v := v) e2 (by simpa using e)
        exact ⟨k, by simpa using h1, h2⟩
    · cases h
theorem argBest_first (num : Nat → Int) : ∀ k j, j < argBest (fun i j => decide (num i < num j)) k → num (argBest (fun i j => decide (num i < num j)) k) < num j
  | 0, j, h => by simp [argBest] at h
  | k + 1, j, h => by
    have ih := argBest_first num k
    have le := argBest_lt num k
    unfold argBest at h ⊢
    by_cases c : num (k + 1) < num (argBest (fun i j => decide (num i < num j)) k)
    · simp only [decide_eq_true c, if_true] at h ⊢
      exact Int.lt_of_lt_of_le c (le.2 j (by omega))
    · simp only [decide_eq_false c, Bool.false_eq_true, if_false] at h ⊢
      exact ih j h
theorem keyP_of {K : PySem.W.Frag} {f : Str} {t j : Nat} {g : Int → Int} {bt : Int → Int → Bool} (hbt : ∀ a b, bt a b = decide (g a < g b)) {z : V} {H : Hp} {Q : VK}
    (h : ∃ v μ ρ, MemOk K ρ H μ ∧ Rep K ρ H v z ∧ keyW t f j μ v g (LK K ρ H Q)) : KeyP K (He.cT K (f, none)).2 (lamQ f) j bt Q z H := by
  obtain ⟨v, μ, ρ, m, r, q⟩ := h
  unfold keyW at q
  split at q
  · rename_i l
    split at q
    · rename_i vs hv
      split at q
      · rename_i ks hk
        obtain ⟨⟨hne, ht⟩, q⟩ := q
        obtain ⟨a, rfl, ha⟩ := r.ref_of
        obtain ⟨xs, hl, rs⟩ := mut_of m hv ha
        obtain ⟨P, hP, eP, hT⟩ := m.at' t _ ht
        subst eP
        obtain ⟨ps, hps, _⟩ := hT
        have hT : TabF H (He.cT K (f, none)).2 (lamQ f) := (m.at' t _ ht).elim fun P w => by
          have e : P = (He.cT K (f, none)).2 := w.2.1
          rw [← e]; exact w.2.2
        have lx := rs.length
        have lk := optAll_len hk
        refine ⟨a, xs, fun i => ks.getD i 0, rfl, hl, ?_, fun i x hx => ?_, hT, fun H2 hx hT2 x hxa => ?_⟩
        · rw [← lx]
          exact List.length_pos_iff.mpr hne
        · have hi : i < vs.length := by rw [lx]; exact (List.getElem?_eq_some_iff.mp hx).1
          obtain ⟨y, h1, h2⟩ := rs.get (List.getElem?_eq_getElem hi)
          rw [hx] at h1; cases h1
          obtain ⟨k, k1, k2⟩ := optAll_at hk (List.getElem?_eq_getElem hi)
          unfold partInt at k2
          split at k2
          · rename_i ws e1
            rw [e1] at h2
            split at k2
            · rename_i i2 e2
              cases k2
              obtain ⟨b, ys, rfl, sq, rr⟩ := h2.tup_of
              obtain ⟨y2, e3, e4⟩ := rr.get e2
              cases e4.int_of
              refine ⟨b, ys, rfl, sq, ?_⟩
              have e5 : ks.getD i 0 = k := by rw [List.getD_eq_getElem?_getD, k1]; rfl
              show ys[j]? = some (V.int (ks.getD i 0))
              rw [e5]
              exact e3
            · cases k2
          · cases k2
        · have eb : (fun i j => bt (ks.getD i 0) (ks.getD j 0)) = fun i j => decide (g (ks.getD i 0) < g (ks.getD j 0)) := by
            funext i j
            exact hbt _ _
          rw [eb] at hxa
          obtain ⟨hle, hall⟩ := argBest_lt (fun i => g (ks.getD i 0)) (xs.length - 1)
          have hfst := argBest_first (fun i => g (ks.getD i 0)) (xs.length - 1)
          have pos : 0 < xs.length := by rw [← lx]; exact List.length_pos_iff.mpr hne
          generalize hi0 : argBest (fun i j => decide (g (ks.getD i 0) < g (ks.getD j 0))) (xs.length - 1) = i0 at hxa hle hall hfst
          have hi : i0 < vs.length := by omega
          obtain ⟨y, h1, h2⟩ := rs.get (List.getElem?_eq_getElem hi)
          rw [hxa] at h1; cases h1
          have hik : i0 < ks.length := by omega
          have fl : FirstLe (ks.map g) i0 := by
            refine ⟨g (ks.getD i0 0), by rw [List.getElem?_map, List.getElem?_eq_getElem hik, List.getD_eq_getElem?_getD, List.getElem?_eq_getElem hik]; rfl, fun k hk2 => ?_, fun j k hj hk2 => ?_⟩
            · obtain ⟨k0, hm, rfl⟩ := List.mem_map.mp hk2
              obtain ⟨n, hn, rfl⟩ := List.mem_iff_getElem.mp hm
              have := hall n (by omega)
              rw [List.getD_eq_getElem?_getD (l := ks) (i := n), List.getElem?_eq_getElem hn] at this
              exact this
            · rw [List.getElem?_map] at hk2
              have hjk : j < ks.length := by omega
              rw [List.getElem?_eq_getElem hjk] at hk2
              cases hk2
              have := hfst j hj
              rw [List.getD_eq_getElem?_getD (l := ks) (i := j), List.getElem?_eq_getElem hjk] at this
              exact this
          have ne : ∀ b o, H b = some o → (∀ ps, o ≠ .tbl ps) → H2 b = some o := fun b o e n => hx b o e fun z => by
            rw [z, hps] at e
            exact n ps (Option.some.inj e).symm
          have gr : Grow K ρ H ρ H2 := ⟨⟨[], by simp⟩, fun b ys sq => by
            rcases sq with (sq | ⟨o, sq⟩) | sq
            · exact .inl (.inl (ne _ _ sq fun _ z => by cases z))
            · exact .inl (.inr ⟨o, ne _ _ sq fun _ z => by cases z⟩)
            · exact .inr sq, fun b o u e => ne _ _ e fun _ z => by cases z⟩
          refine q i0 _ (List.getElem?_eq_getElem hi) fl ρ H2 x gr ⟨m.len, fun i o e => ?_, m.nd⟩ (h2.grow gr)
          by_cases hit : i = t
          · subst hit
            rw [ht] at e; cases e
            exact ⟨_, hP, rfl, hT2⟩
          · obtain ⟨b, e1, ok⟩ := m.at' i o e
            refine ⟨b, e1, ok.grow gr (fun ys fz => ?_) fun mo u e2 _ => hx b u e2 fun z => ?_⟩
            · rcases fz with ⟨o, fz⟩ | fz
              · exact .inl ⟨o, ne _ _ fz fun _ z => by cases z⟩
              · exact .inr fz
            · subst z
              exact hit (m.nd i t _ o _ e1 hP e ht (own_mv mo) rfl)
      · exact False.elim q
    · exact False.elim q
  · exact False.elim q
theorem lam_bind {y : Str} {an : Option Expr} {p : Pos} {q : Str} {body : Expr} {sc : Scope} {pm cv ctv u : Value} : bindArgs (PySem.W.kla_fn "<lambda>" q ⟨[], [⟨y, an, p⟩], none, [], [], none, []⟩ body sc [] pm cv ctv) ⟨[u], []⟩ = pure [(y, u)] := by
  unfold bindArgs PySem.W.kla_fn
  simp [seqItems?, List.lookup, pure_bind]
  rfl
/-- what the look at a lambda tells -/
theorem lam_of {ps : Arguments} {body : Expr} {sc : Scope} {j : Nat} (h : lamB ps body sc j = true) : ∃ x, (∀ env, defaultsOf ps env = ([], [])) ∧ LamW x j ps body sc ∧ sc.names = [(x, .local)] := by
  unfold lamB at h
  split at h
  · simp only [Bool.and_eq_true, decide_eq_true_eq, Bool.not_eq_true'] at h
    obtain ⟨rfl, rfl, hn, hs, h1, h2⟩ := h
    refine ⟨_, fun env => rfl, ⟨scope_of hs, fun q pm cv ctv u => lam_bind, ⟨_, _, _, _, rfl⟩, vis_of ?_, h1, h2⟩, hn⟩
    unfold visB
    rw [hn]
    simp [List.lookup]
  · cases h
end PV

/-! methods of texts; f-strings; fields -/
namespace PV
open PySem PySem.Spec PyProof.Rows L2
def smId : Sm → String
  | .join => "str.join"
  | .split => "str.split"
  | .partition => "str.partition"
  | .strip => "str.strip"
  | .upper => "str.upper"
  | .startswith => "str.startswith"
  | .replace => "str.replace"
def LSm (K : PySem.W.Frag) (f : Sm) : V → List V → Hp → VK → Prop := fun x xs H Q => ∃ v vs μ ρ, MemOk K ρ H μ ∧ Rep K ρ H v x ∧ Reps K ρ H vs xs ∧ smW f μ v vs (LK K ρ H Q)
section
variable {X : Cx}
theorem opSm (f : Sm) : MtR X (smId f) (LSm X.K f) := by
  intro pins s σ H x xs v us Q I rx rxs h
  obtain ⟨w, ws, μ, ρ, m, rw', rs, h⟩ := h
  unfold smW at h
  split at h
  case h_2 => exact False.elim h
  cases rw'.str_of
  cases f with
  | join =>
    simp only at h
    split at h
    case h_2 => exact False.elim h
    split at h
    case h_2 => exact False.elim h
    rename_i e1
    split at h
    case h_2 => exact False.elim h
    rename_i e2
    obtain ⟨y, rfl, ry⟩ := rs.one
    obtain ⟨p, zs, rfl, r2, q⟩ := seq_of m e1 ry
    have e3 := strs_rep r2 e2
    subst e3
    exact mt_join pins s σ H _ _ v us Q I rx rxs ⟨_, p, _, rfl, rfl, q, h.1, h.2.self m (.str _)⟩
  | split =>
    simp only at h
    split at h
    case h_2 => exact False.elim h
    obtain ⟨y, rfl, ry⟩ := rs.one
    cases ry.str_of
    exact mt_split pins s σ H _ _ v us Q I rx rxs ⟨_, _, rfl, rfl, h.1.1, h.1.2, fun p hp => h.2.lst m (reps_strs _) hp⟩
  | partition =>
    simp only at h
    split at h
    case h_2 => exact False.elim h
    obtain ⟨y, rfl, ry⟩ := rs.one
    cases ry.str_of
    exact mt_partition pins s σ H _ _ v us Q I rx rxs ⟨_, _, rfl, rfl, h.1.1, h.1.2, fun p hp => h.2.tup m (.cons (.str _) (.cons (.str _) (.cons (.str _) .nil))) hp⟩
  | strip =>
    simp only at h
    split at h
    case h_2 => exact False.elim h
    obtain ⟨y, rfl, ry⟩ := rs.one
    cases ry.str_of
    exact mt_stripChars pins s σ H _ _ v us Q I rx rxs ⟨_, _, rfl, rfl, h.1, h.2.self m (.str _)⟩
  | upper =>
    simp only at h
    split at h
    case h_2 => exact False.elim h
    cases rs
    exact mt_upper pins s σ H _ _ v us Q I rx rxs ⟨_, rfl, rfl, h.1, h.2.self m (.str _)⟩
  | startswith =>
    simp only at h
    split at h
    case h_2 => exact False.elim h
    obtain ⟨y, rfl, ry⟩ := rs.one
    cases ry.str_of
    exact mt_startswith pins s σ H _ _ v us Q I rx rxs ⟨_, _, rfl, rfl, h.self m (.bool _)⟩
  | replace => exact False.elim h
theorem sm_pe1 (f : Sm) (hn : smNo f = 1) {o e : Expr} {to te : TE} {n : Str} {apos pos : Pos} (en : n = smName f) (ho : PE X o to) (he : PE X e te) (hs : starEach [e] X.env = [(false, eval e X.env)]) (hbase : attributeBase o n X.env (eval o X.env) = eval o X.env)
    (hline : (apos.endLine == pos.line) = true) : PE X (.Call (.Attribute o n apos) [e] [] pos) (tM1 (LSm X.K f) to te) := by
  subst en
  cases f with
  | join => exact pe_m1 F.slot_str_join F.type_str_join (opSm .join) ho he hs hbase hline
  | split => exact pe_m1 F.slot_str_split F.type_str_split (opSm .split) ho he hs hbase hline
  | partition => exact pe_m1 F.slot_str_partition F.type_str_partition (opSm .partition) ho he hs hbase hline
  | strip => exact pe_m1 F.slot_str_strip F.type_str_strip (opSm .strip) ho he hs hbase hline
  | startswith => exact pe_m1 F.slot_str_startswith F.type_str_startswith (opSm .startswith) ho he hs hbase hline
  | upper => cases hn
  | replace => cases hn
theorem sm_pe0 (f : Sm) (hn : smNo f = 0) {o : Expr} {to : TE} {n : Str} {apos pos : Pos} (en : n = smName f) (ho : PE X o to) (hbase : attributeBase o n X.env (eval o X.env) = eval o X.env)
    (hline : (apos.endLine == pos.line) = true) : PE X (.Call (.Attribute o n apos) [] [] pos) (tM0 (LSm X.K f) to) := by
  subst en
  cases f with
  | upper => exact pe_m0 F.slot_str_upper F.type_str_upper (opSm .upper) ho hbase hline
  | _ => cases hn
/-- the object at a place -/
theorem ins_of {K : PySem.W.Frag} {ρ : List Addr} {H : Hp} {μ : Mem} {r : Nat} {a : Addr} {p : Str × List (Str × Vl)} (m : MemOk K ρ H μ) (h : insAt μ r = some p) (ha : ρ[r]? = some a) :
    ∃ dx ks, H a = some (.ins (He.ga K p.1) dx ks) ∧ Paired (fun (p : Str × Vl) (q : Str × V) => p.1 = q.1 ∧ Rep K ρ H p.2 q.2) p.2 ks := by
  have e : μ[r]? = some (.ins p.1 p.2) := by
    unfold insAt at h
    split at h
    · rename_i e; cases h; exact e
    · cases h
  obtain ⟨b, e1, ok⟩ := m.at' r _ e
  rw [ha] at e1; cases e1
  exact ok
theorem ins_at {μ : Mem} {r : Nat} {p : Str × List (Str × Vl)} (h : insAt μ r = some p) : μ[r]? = some (.ins p.1 p.2) := by
  unfold insAt at h
  split at h
  · rename_i e; cases h; exact e
  · cases h
theorem fs_lookup {K : PySem.W.Frag} {ρ : List Addr} {H : Hp} {f : Str} {fs : List (Str × Vl)} {ks : List (Str × V)} (r : Paired (fun (p : Str × Vl) (q : Str × V) => p.1 = q.1 ∧ Rep K ρ H p.2 q.2) fs ks) :
    (fs.lookup f = none ∧ ks.lookup f = none) ∨ ∃ v x, fs.lookup f = some v ∧ ks.lookup f = some x ∧ Rep K ρ H v x := by
  induction r with
  | nil => exact .inl ⟨rfl, rfl⟩
  | @cons p q ps qs h t ih =>
    obtain ⟨g, v⟩ := p
    obtain ⟨g2, x⟩ := q
    obtain ⟨e, rv⟩ := h
    simp only at e
    subst e
    rw [List.lookup_cons, List.lookup_cons]
    cases f == g with
    | true => exact .inr ⟨v, x, rfl, rfl, rv⟩
    | false => exact ih
theorem fs_put {K : PySem.W.Frag} {ρ : List Addr} {H : Hp} {f : Str} {v : Vl} {x : V} {fs : List (Str × Vl)} {ks : List (Str × V)} (r : Paired (fun (p : Str × Vl) (q : Str × V) => p.1 = q.1 ∧ Rep K ρ H p.2 q.2) fs ks) (rv : Rep K ρ H v x) :
    Paired (fun (p : Str × Vl) (q : Str × V) => p.1 = q.1 ∧ Rep K ρ H p.2 q.2) (putA f v fs) (putF f x ks) := by
  induction r with
  | nil => exact .cons ⟨rfl, rv⟩ .nil
  | @cons p q ps qs h t ih =>
    obtain ⟨g, w⟩ := p
    obtain ⟨g2, y⟩ := q
    obtain ⟨e, rw'⟩ := h
    simp only at e
    subst e
    unfold putA putF
    by_cases c : g = f
    · rw [if_pos c, if_pos c]; exact .cons ⟨rfl, rv⟩ t
    · rw [if_neg c, if_neg c]; exact .cons ⟨rfl, rw'⟩ ih
theorem MemOk.frzK {K : PySem.W.Frag} {ρ : List Addr} {H H1 : Hp} {μ : Mem} {r : Nat} {a : Addr} {o : Obj} {kvs : List (Key × Vl)} {ks : List (Key × V)} (m : MemOk K ρ H μ) (h : dctAt μ r = some kvs) (ha : ρ[r]? = some a) (rel : DRel K ρ H kvs ks)
    (e : H1 a = some (.frz o (.dK ks))) (g : Grow K ρ H ρ H1) (k : ∀ b, b ≠ a → H1 b = H b) : MemOk K ρ H1 (μ.set r (.dfz kvs)) := by
  have new : ObOk K ρ H1 (.dfz kvs) a := ⟨o, ks, e, rel.grow g⟩
  rcases dct_at h with f | f
  · exact m.turn f rfl rfl ha new g.tups k
  · exact m.turn f rfl rfl ha new g.tups k
/-- what is locked was no frozen thing -/
theorem lock_ok {K : PySem.W.Frag} {NF : Addr → Prop} {ρ0 ρ : List Addr} {H H1 : Hp} {μ : Mem} {r : Nat} {a : Addr} (m : MemOk K ρ H1 μ) (ha : ρ[r]? = some a) (g : Grow K ρ0 H ρ H1) (nf : Mut (H1 a) → NF a) :
    ∀ r', lockOf μ r = some r' → ∃ a', ρ[r']? = some a' ∧ NF a' ∧ ∀ o u, H a' ≠ some (.frz o u) := by
  intro r' h
  have key : ∀ ob, μ[r]? = some ob → isMut ob = true → r' = r → ∃ a', ρ[r']? = some a' ∧ NF a' ∧ ∀ o u, H a' ≠ some (.frz o u) := fun ob e mu er => by
    subst er
    obtain ⟨b, e1, ok⟩ := m.at' _ ob e
    rw [ha] at e1; cases e1
    have mm := ok.mutH mu
    refine ⟨a, ha, nf mm, fun o u z => ?_⟩
    rw [g.frz _ _ _ z] at mm
    exact mm
  unfold lockOf at h
  split at h
  · rename_i e; cases h; exact key _ e rfl rfl
  · rename_i e; cases h; exact key _ e rfl rfl
  · cases h
/-- f'..' of one part -/
theorem pe_joined1s {e : Expr} {t : TE} {pos : Pos} (he : PE X e t) : PE X (.JoinedStr [e] pos) (fun σ H Q => tJs [t] Str.empty σ H fun out H1 => Q (.str out) H1) :=
  ⟨fun pins s σ H Q I q => wpAny_JoinedStr_one (thn (he.run pins s σ H _ I q) fun v s1 ⟨x, H1, I1, rx, y, ex, hl, q1⟩ => ⟨x, H1, I1, rx, by
    have e : Str.empty ++ y = y := by
      obtain ⟨c⟩ := y
      show (⟨#[] ++ c⟩ : Str) = ⟨c⟩
      simp
    rw [ex, ← e]
    exact q1⟩)⟩
end
end PV

/-! own rule: sorted(set(a list of whole numbers)), any number of them -/
namespace PV
open PySem PySem.Spec PyProof.Rows L2
section
variable {P : Program} {w : World} {A : Around} {E : Value → Shared → Prop} {s : Shared}
set_option maxHeartbeats 3200000 in
theorem call_set_listI {l : Addr} {items : Array Value} (ns : List Int) {Q : Value → Shared → Prop} (hh : A.handled = none) (hl : s.heap.IsList l items) (hit : IntsAre items.toList ns) (hb : ns.length + 1 < scanBound)
    (h : ∀ (h' : Heap) (tk c : Nat), SetR w h' s.heap.objs.size (fun j => decide (j ∈ ns)) c → c ≤ ns.length → (∀ b o, s.heap.get? b = some o → h'.get? b = some o) → Q (.ref s.heap.objs.size) { s with heap := h', toks := tk }) :
    wpAny (model P w) A (call (.type "set") [.ref l]) Q E s := by
  have hisz : items.size = ns.length := by
    have q := IntsAre.length hit
    rw [Array.length_toList] at q
    exact q
  obtain ⟨c, tl, hmro⟩ := F.called_set.mro
  have hmade := F.called_set.made
  have hsub := F.called_set.sub
  refine wpAny_call (codeAny_of_tree ?_)
  show wpAny _ _ (callAny (.type "set") _) _ _ _
  refine wpAny_pure ⟨Code.quiet_builtin _ (by decide +kernel), codeAny_builtin F.entry_type_call ?_⟩
  rw [Around.under_plain (weight_type_call_type "set" [.ref l] []) rfl]
  have h1 := F.called_set.notType
  have h2 := F.called_set.canCreate
  have hct := F.typeCall_set_1 (.ref l)
  repeat (any_goals (first | assumption | wp_step))

  refine codeAny_mono (code_set_led1 (.ref l) (E := E) (Q₁ := fun obj s₁ => obj = .ref s.heap.objs.size ∧ s₁ = { s with heap := s.heap.push { cls := .type "set", dict := none, data := .set #[] 0 (.fresh 0 0 (!w.params.followText "set-order")) } }) ⟨rfl, rfl⟩) fun r s₁ hr => ?_
  cases r with
  | error e => exact hr
  | ok fl =>
    cases fl with
    | ret obj =>
      obtain ⟨rfl, rfl⟩ := hr
      have hS : (s.heap.push { cls := .type "set", dict := none, data := .set #[] 0 (.fresh 0 0 (!w.params.followText "set-order")) }).get? s.heap.objs.size = some { cls := .type "set", dict := none, data := .set #[] 0 (.fresh 0 0 (!w.params.followText "set-order")) } := Heap.get?_push_size _ rfl
      have hT : Shared.TypeIs { s with heap := s.heap.push { cls := .type "set", dict := none, data := .set #[] 0 (.fresh 0 0 (!w.params.followText "set-order")) } } (.ref s.heap.objs.size) "set" := ⟨_, hS, rfl⟩
      have hli := F.called_set.init.lookup
      have hbi := F.called_set.init.bind (.ref s.heap.objs.size)
      repeat (any_goals (first | assumption | wp_step))

      refine codeAny_mono (codeAny_call_builtin (R := wants (fun r s₂ => r = .none ∧ ∃ h' tk c, s₂ = { s with heap := h', toks := tk } ∧ SetR w h' s.heap.objs.size (fun j => decide (j ∈ ns)) c ∧ c ≤ ns.length ∧
          (∀ b o, s.heap.get? b = some o → h'.get? b = some o)) E) F.called_set.init.plain F.entry_set_init (check_set_init_1 hT ?_)) fun r₂ s₂ hr₂ => ?_
      · obtain ⟨ol, hol, hcl, nl, hdl⟩ := hl
        obtain ⟨ocls, odict, odata, oslots⟩ := ol
        simp only at hcl hdl
        subst hcl; subst hdl
        have hol' : (s.heap.push { cls := .type "set", dict := none, data := .set #[] 0 (.fresh 0 0 (!w.params.followText "set-order")) }).get? l = some { cls := .type "list", dict := odict, data := .seq items nl, slots := oslots } := Heap.get?_push_of_some _ hol
        have hsls := F.sub_list_set
        have hslf := F.sub_list_frozenset
        have hne : (Value.type "list" == Value.type "dict") = false := by decide
        have hl1 : (s.heap.push { cls := .type "set", dict := none, data := .set #[] 0 (.fresh 0 0 (!w.params.followText "set-order")) }).IsList l items := ⟨_, hol', rfl, nl, rfl⟩
        unfold Builtin.«set.__init__» noKeywords Builtin.Frozenset.updateFrom
        generalize hPI : pyIter = PI
        wp_walk
        subst hPI

        refine wpAny_pyIter_list hl1 ?_
        refine wpAny_bind (wpAny_runValue ?_)
        have hlS : l < s.heap.objs.size := Heap.lt_size hol
        have hh3 : A.in1.in1.in1.handled = none := by simp [hh]
        have hz1 : (s.heap.push { cls := .type "set", dict := none, data := .set #[] 0 (.fresh 0 0 (!w.params.followText "set-order")) }).objs.size = s.heap.objs.size + 1 := Heap.size_push ..
        have hneI : l ≠ (s.heap.push { cls := .type "set", dict := none, data := .set #[] 0 (.fresh 0 0 (!w.params.followText "set-order")) }).objs.size := by
          rw [Heap.size_push]; exact Nat.ne_of_lt (Nat.lt_succ_of_lt hlS)
        have hSf : s.heap.objs.size ∉ [(s.heap.push { cls := .type "set", dict := none, data := .set #[] 0 (.fresh 0 0 (!w.params.followText "set-order")) }).objs.size, l] := by
          rw [Heap.size_push]; simp only [List.mem_cons, List.mem_singleton, List.not_mem_nil, or_false, not_or]
          exact ⟨Nat.ne_of_lt (Nat.lt_succ_self _), Nat.ne_of_gt hlS⟩
        have hval : ∀ (i : Nat) (v : Value), items[i]? = some v → ∃ k t, ns[i]? = some k ∧ v = .int k t := fun i v hv => by
          have hi : i < ns.length := by rw [← hisz]; exact (Array.getElem?_eq_some_iff.mp hv).1
          obtain ⟨t, e⟩ := PyProof.Rows.IntsAre.int_at hit i v (by rw [Array.getElem?_toList]; exact hv)
          refine ⟨ns[i], t, List.getElem?_eq_getElem hi, ?_⟩
          rw [e, List.getD_eq_getElem?_getD, List.getElem?_eq_getElem hi] <;> rfl
        refine set_update_ints ((Walks.list hh3 _ l hneI items).toS) s.heap.objs.size
          hSf ns hisz hb hval (items.size - 0) 0 _ (by omega) (Nat.zero_le _)
          ⟨⟨_, Heap.get?_push_size _ rfl, rfl, rfl⟩, (hl1.push _)⟩ ?hS0 ?hR
        case hS0 =>
          have hget : ((s.heap.push { cls := .type "set", dict := none, data := .set #[] 0 (.fresh 0 0 (!w.params.followText "set-order")) }).push { cls := .type "list_iterator", data := .fields #[.ref l, .int 0 0] }).get? s.heap.objs.size
              = some { cls := .type "set", dict := none, data := .set #[] 0 (.fresh 0 0 (!w.params.followText "set-order")) } := Heap.get?_push_of_some _ hS
          exact ⟨0, Nat.le_refl 0, setR_new_at hget⟩
        case hR =>
          intro s' c' hm hc' hS'
          obtain ⟨h', g2, d', tk', os'⟩ := s'
          have eg : g2 = s.gens := hm.gens
          have ed : d' = s.drawn := hm.drawn
          have eo : os' = s.os := hm.os
          subst eg; subst ed; subst eo
          show wpAny _ _ _ _ _ _
          refine wpAny_pure ?_
          show wpAny _ _ (ret Value.none) _ _ _
          rw [hisz] at hc'
          refine wpAny_pure ⟨rfl, h', tk', c', rfl, hS', hc', fun b o e => ?_⟩
          have hb0 : b < s.heap.objs.size := Heap.lt_size e
          have hb1 : b ≠ s.heap.objs.size := Nat.ne_of_lt hb0
          have hb2 : b ≠ (s.heap.push { cls := .type "set", dict := none, data := .set #[] 0 (.fresh 0 0 (!w.params.followText "set-order")) }).objs.size := by
            rw [Heap.size_push]; exact Nat.ne_of_lt (Nat.lt_succ_of_lt hb0)
          exact hm.heap b o (by simp only [List.mem_cons, List.mem_singleton, List.not_mem_nil, or_false, not_or]; exact ⟨hb1, hb2⟩) (Heap.get?_push_of_some _ (Heap.get?_push_of_some _ e))

      · cases r₂ with
        | error e => exact hr₂
        | ok fl₂ =>
          cases fl₂ with
          | ret r =>
            obtain ⟨rfl, h', tk, c', rfl, hS', hc', hk'⟩ := hr₂
            repeat (any_goals (first | assumption | wp_step))
            exact h _ _ _ hS' hc' hk'
          | _ => exact hr₂.elim
    | _ => exact hr.elim
/-- sorted of a set, any number of members -/
theorem sorted_setB {a : Addr} {S : Int → Bool} {n : Nat} {Q : Value → Shared → Prop} (R : SetR w s.heap a S n) (hh : A.handled = none)
    (hQ : ∀ s' p (out : Array Value) (c : Nat) (ns : List Int), (∀ b o, s.heap.get? b = some o → s'.heap.get? b = some o) → s'.gens = s.gens → s'.os = s.os → s.heap.objs.size ≤ p →
      s'.heap.get? p = some (seqObj "list" out c) → IntsAre out.toList ns → ns.Pairwise (· < ·) → (∀ k, k ∈ ns ↔ S k = true) → ns.length = n → Q (.ref p) s') :
    wpAny (model P w) A (call (.builtin "sorted") [.ref a]) Q E s := by
  obtain ⟨o, es, ep, t, ho, hex, hd, g, nd, hm, hb, hf, hn, hr, hl⟩ := R
  refine Calls.call_function_entry PyProof.Rows.kind_sorted PyProof.Rows.plain_sorted PyProof.Rows.entry_sorted (PyProof.Rows.args_sorted1 _) ?_
  unfold Builtin.«sorted»
  refine wpAny_bind (m := checkCount "sorted" 1 1 _) (wpAny_pure ?_)
  refine wpAny_bind (collect_set (A := A.in1) hh ⟨o, ho, hex.1, hd⟩ hf hb hr hl fun s1 vs k1 hz g1 o1 pm => ?_)
  have hvl : vs.length = n := by rw [pm.length_eq, List.length_map, Array.length_toList]; exact hn
  have hnb : n ≤ sizeLine := by rw [← hn]; exact fits_of_scanBound hb
  have hI : IntsAre vs (vs.map Builtin.Re.reRawOf) := ints_of vs fun v hv => by
    obtain ⟨e, he, q⟩ := List.mem_map.mp (pm.mem_iff.mp hv)
    obtain ⟨k, tk, h1, _⟩ := g e he
    exact ⟨k, tk, by rw [← q]; exact h1⟩
  have pk : (vs.map Builtin.Re.reRawOf).Perm (es.toList.map keyOf) := by
    have q := pm.map Builtin.Re.reRawOf
    rw [List.map_map] at q
    exact q
  refine wpAny_bind (wpAny_newList ?_ (by rw [hvl]; exact hnb))
  have hoL : (s1.heap.push (seqObj "list" vs.toArray 0)).get? s1.heap.objs.size = some (seqObj "list" vs.toArray 0) := Heap.get?_push_size _ rfl
  refine wpAny_bind (wpAny_holding (wpAny_call_entry PyProof.Rows.slot_list_sort ⟨_, hoL, rfl⟩ PyProof.Rows.entry_list_sort
    (SrtO.list_sort_ord SrtO.swo_int hoL (by rw [hvl]; exact hnb) (fun h2 => SrtO.ints_sortable hI h2) fun out a1 a2 => ⟨_, rfl, ?_⟩) (PyProof.Rows.args_list_sort _)))
  obtain ⟨b1, b2, b3⟩ := SrtO.ints_out hI a1 a2
  obtain ⟨c, hc⟩ := PyProof.Rows.sortedHeap_at (vs := vs) (out := out.toArray) hoL
  have pn : (out.map SrtO.iv).Perm (es.toList.map keyOf) := b2.trans pk
  refine wpAny_pure ⟨_, rfl, hQ _ s1.heap.objs.size out.toArray c (out.map SrtO.iv) (fun b u e => ?_) g1 o1 hz hc (by simpa using b1) (lt_of_le_nodup _ b3 (pn.nodup_iff.mpr nd)) (fun k => by rw [pn.mem_iff, ← hm k]) ?_⟩
  · have q := k1 b u e
    have hlt := Heap.lt_size q
    show (PyProof.Rows.sortedHeap (s1.heap.push (seqObj "list" vs.toArray 0)) s1.heap.objs.size vs out.toArray).get? b = some u
    rw [PyProof.Rows.sortedHeap_old (Nat.ne_of_lt hlt) (by rw [size_push']; exact Nat.lt_succ_of_lt hlt)]
    exact Heap.get?_push_of_some _ q
  · rw [pn.length_eq, List.length_map, Array.length_toList]; exact hn
end
section
variable {X : Cx}
def tSrtSet (K : PySem.W.Frag) (ta : TE) : TE := fun σ H Q => ta σ H fun x H1 => ∃ (l : Addr) (ns : List Int), x = .ref l ∧ SqL K H1 l (ns.map V.int) ∧ ns.length + 1 < scanBound ∧ ∀ (ms : List Int) (p : Addr), ms.Pairwise (· < ·) → (∀ k, k ∈ ms ↔ k ∈ ns) → H1 p = none → Q (.ref p) (upd H1 p (.lst (ms.map V.int)))
theorem pe_srtSet {a : Expr} {ta : TE} {p p2 q pos : Pos} (hc : X.calm = true) (hg : Gl X "sorted") (hm : X.mg "sorted" = none) (hg2 : Gl X "set") (hm2 : X.mg "set" = none) (ha : PE X a ta)
    (na : starEach [a] X.env = (false, eval a X.env) :: starEach [] X.env) : PE X (.Call (.Name "sorted" p) [.Call (.Name "set" p2) [a] [] q] [] pos) (tSrtSet X.K ta) := by
  refine ⟨fun pins s σ H Q I h => ?_⟩
  refine Call_ (ld_blt I hg hm boot_sorted ?_)
  refine PyProof.Rows.callWith_builtin1 (PyProof.Rows.args_cons ?_ rfl) rfl rfl
  refine Call_ (ld_blt I hg2 hm2 boot_set ?_)
  refine PyProof.Rows.callWith_type1 (PyProof.Rows.args_cons (thn (ha.run pins s σ H _ I h) fun v s1 ⟨x, H1, I1, r1, q1⟩ => PyProof.Rows.args_nil ?_) na) na rfl
  obtain ⟨l, ns, rfl, hq, hb, q1⟩ := q1
  cases r1
  obtain ⟨its, r, pl, hz⟩ := I1.list hq
  refine call_set_listI ns (I1.ok.hd hc) pl.isList (by simpa using ints_of_vals r) hb fun h' tk c R hcn hk => PyProof.Rows.args_nil ?_
  have I2 : Inv X pins σ H1 { s1 with heap := h', toks := tk } := I1.kept hk
  have R' : SetR X.w ({ s1 with heap := h', toks := tk } : Shared).heap s1.heap.objs.size (fun j => decide (j ∈ ns)) c := R
  clear R
  generalize ({ s1 with heap := h', toks := tk } : Shared) = s2 at I2 R' ⊢
  refine sorted_setB R' (I2.ok.hd hc) fun s' p out c ms k g o hp hg hi hs hm hl => ?_
  have hlen : (ms.map V.int).length ≤ sizeLine := by
    rw [List.length_map, hl]
    exact fits_of_scanBound (by omega)
  have hn : H1 p = none := I2.hok.fresh hp
  have J : Inv X pins σ (upd H1 p (.lst (ms.map V.int))) { s2 with heap := s'.heap, gens := s'.gens, drawn := s'.drawn, toks := s'.toks } :=
    I2.call (ch := []) (Un.laid k hp hn) (I2.hok.laid k hp ⟨hlen, out.toList, c, vals_of_ints hi, hg⟩) (by rw [g]; exact I2.bare) (fun _ z => nomatch z)
  have e : s' = { s2 with heap := s'.heap, gens := s'.gens, drawn := s'.drawn, toks := s'.toks } := by
    cases s'
    cases s2
    cases o
    rfl
  rw [e]
  exact ⟨.ref p, _, J, rfl, q1 ms p hs (fun k => by rw [hm k]; simp) hn⟩
end
end PV

/-! own rule: range(a, b), however great the numbers -/
namespace PV
open PySem PySem.Spec PyProof.Rows L2
theorem turn_lrange {P : Program} {w : World} {K : PySem.W.Frag} {tg : Expr} (it : Addr) (lo : Int) (n : Nat) : Turn P w K tg (Itr lo n) [it] it (fun i h => IsLongIter h it (lo + (i : Nat) * 1) ((n : Int) - (i : Nat)) 1) where
  mem := by simp
  obj := fun i h st b hb => by
    have e : b = it := by simpa using hb
    subst e
    exact ⟨_, st, fun v z => by
      have z' : Data.fields _ = Data.cell v := z
      cases z'⟩
  keep := fun i h h' st k => k it (by simp) _ st
  item := by
    intro X hP hw hK hc i pins s σ H E I hf st hg
    subst hP hw hK
    obtain ⟨f0, f1, f2, f3, f4, f5⟩ := hf it (by simp)
    have W := Walks.longrange (prog := X.prog) (w := X.w) (I.ok.hd hc) it lo 1 n
    refine W.item i s _ _ hg st fun v h' tk hv st' kk => ?_
    obtain ⟨t, rfl⟩ := hv
    have I1 : Inv X pins σ H { s with heap := h', toks := tk } := I.turned (fun b o hb e => kk b o (by simpa using hb) e) f0 f1 f3 f4 f5
    refine ⟨_, rfl, go_of (s := { s with heap := h', toks := tk }) (n := "longrange_iterator") st' rfl rfl (by decide) ⟨.int (lo + i), H, I1, ⟨t, ?_⟩, ⟨rfl, rfl⟩, st', fun b hb => (hf b hb).1⟩⟩
    rw [Int.mul_one]
  done := by
    intro X hP hw hK hc i pins s σ H E I hf st hg
    subst hP hw hK
    obtain ⟨f0, f1, f2, f3, f4, f5⟩ := hf it (by simp)
    exact wpAny_pyNext_long_end (I.ok.hd hc) st (by have : n ≤ i := hg; omega) fun h' eb => ⟨rfl, I.turned (t' := s.toks) (fun b o hb e => eb b o hb e) f0 f1 f3 f4 f5⟩
  self := fun _ _ _ _ _ st h => wpAny_pyIter_longiter st h
section
variable {X : Cx} {tg : Expr}
theorem range_itB {pins : List (Addr × Obj)} {σ : L2.St} {H : Hp} {s : Shared} {R : It → Hp → Prop} {E : Value → Shared → Prop} {lo hi : Int} {t u v : Tok} {tk : Nat} (I : Inv X pins σ H s)
    (q : R (Itr lo (hi - lo).toNat) H) : wpAny (model X.prog X.w) X.A (pyIter (.ref s.heap.objs.size)) (PIE X pins σ tg R) E { s with heap := s.heap.push { cls := .type "range", data := .fields #[.int lo t, .int hi u, .int 1 v] }, toks := tk } := by
  have I1 : Inv X pins σ H { s with heap := s.heap.push { cls := .type "range", data := .fields #[.int lo t, .int hi u, .int 1 v] }, toks := tk } := I.kept fun b o e => Heap.get?_push_of_some _ e
  have e1 : lo + ((0 : Nat) : Int) * 1 = lo := by simp
  have e2 : (((hi - lo).toNat : Nat) : Int) - ((0 : Nat) : Int) = Builtin.Range.rangeSize lo hi 1 := by rw [rangeSize_one]; split <;> omega
  by_cases hs : Builtin.Range.small lo hi 1 = true
  · refine wpAny_pyIter_range (IsRange.new ..) hs ?_
    refine ⟨(s.heap.push { cls := .type "range", data := .fields #[.int lo t, .int hi u, .int 1 v] }).objs.size, [(s.heap.push { cls := .type "range", data := .fields #[.int lo t, .int hi u, .int 1 v] }).objs.size], _, _, H, rfl,
      I1.kept (t' := tk) fun b o e => Heap.get?_push_of_some _ e, turn_range _ lo (hi - lo).toNat, ?_, fun b hb => ?_, q⟩
    · show IsRangeIter _ _ (lo + ((0 : Nat) : Int) * 1) ((((hi - lo).toNat : Nat) : Int) - ((0 : Nat) : Int)) 1
      rw [e1, e2]
      exact Heap.get?_push_size _ rfl
    · have e : b = (s.heap.push { cls := .type "range", data := .fields #[.int lo t, .int hi u, .int 1 v] }).objs.size := by simpa using hb
      subst e
      exact I1.fpOk (Nat.le_refl _) (I1.hok.fresh (Nat.le_refl _))
  · refine wpAny_pyIter_longrange (IsRange.new ..) (by simpa using hs) ?_
    refine ⟨(s.heap.push { cls := .type "range", data := .fields #[.int lo t, .int hi u, .int 1 v] }).objs.size, [(s.heap.push { cls := .type "range", data := .fields #[.int lo t, .int hi u, .int 1 v] }).objs.size], _, _, H, rfl,
      I1.kept (t' := tk) fun b o e => Heap.get?_push_of_some _ e, turn_lrange _ lo (hi - lo).toNat, ?_, fun b hb => ?_, q⟩
    · show IsLongIter _ _ (lo + ((0 : Nat) : Int) * 1) ((((hi - lo).toNat : Nat) : Int) - ((0 : Nat) : Int)) 1
      rw [e1, e2]
      exact Heap.get?_push_size _ rfl
    · have e : b = (s.heap.push { cls := .type "range", data := .fields #[.int lo t, .int hi u, .int 1 v] }).objs.size := by simpa using hb
      subst e
      exact I1.fpOk (Nat.le_refl _) (I1.hok.fresh (Nat.le_refl _))
def iRngB (ta : TA) : TI := fun σ H R => ta σ H fun vs H1 => ∃ i j : Int, vs = [.int i, .int j] ∧ R (Itr i (j - i).toNat) H1
theorem pi_rangeB {a b : Expr} {ta : TA} {p pos : Pos} (hg : Gl X "range") (hm : X.mg "range" = none) (ha : PA X [a, b] ta) (hs : starEach [a, b] X.env = [(false, eval a X.env), (false, eval b X.env)] := by rfl) (hs2 : starEach [b] X.env = [(false, eval b X.env)] := by rfl) :
    PI X tg (.Call (.Name "range" p) [a, b] [] pos) (iRngB ta) := by
  refine ⟨fun pins s σ H R I h => ?_⟩
  refine Call_ (ld_blt I hg hm boot_range (PyProof.Rows.callWith_type1 (thn (ha.run pos pins s σ H _ I h) fun us s1 ⟨vs, H1, I1, r1, q1⟩ => ?_) (by rw [hs, hs2]) (by rw [hs2]; rfl)))
  obtain ⟨i, j, e, q⟩ := q1
  subst e
  cases r1 with
  | cons r rr =>
    cases rr with
    | cons r' rr =>
      cases rr
      obtain ⟨t, rfl⟩ := r
      obtain ⟨t', rfl⟩ := r'
      exact call_range_2 (range_itB I1 q)
end
/-! list(range(a, b)), however great the numbers -/
theorem extend_lrange {prog : Program} {w : World} {A : Around} {s : Shared} {R : Result → Shared → Prop} {r : Addr} {a b : Int} {t u v : Tok} {n : Nat} (hh : A.handled = none) (hr : IsRange s.heap r a b 1 t u v) (hbig : Builtin.Range.small a b 1 = false)
    (hn : Builtin.Range.rangeSize a b 1 = n) (hlen : n ≤ 2 ^ 24) (S : Addr) (res : Value) (c₀ : Nat) (hS : s.heap.get? S = some { cls := .type "list", data := .seq #[] c₀ })
    (hR : ∀ h' tk acc' c', (∀ b o, b ≠ S → s.heap.get? b = some o → h'.get? b = some o) → h'.get? S = some { cls := .type "list", dict := none, data := .seq acc' c', slots := #[] } →
      ItemsOf (fun i v => ∃ t, v = .int (a + i * 1) t) acc' n → R (.ok (.ret res)) { s with heap := h', toks := tk }) :
    wpAny (model prog w) A.in1 (Builtin.List.listExtendWith (.ref S) (.ref r) res)
      (fun fin s' => match fin with | .done f => R (.ok f) s' | .again c' => c'.quiet = true ∧ codeAny (model prog w) A c' R s') (fun e s' => R (.error e) s') s := by
  have hSr : S ≠ r := fun e => by rw [e, hr] at hS; simp at hS
  have hSlt : S < s.heap.objs.size := Heap.lt_size hS
  have hSI : S ≠ s.heap.objs.size := Nat.ne_of_lt hSlt
  have hSf : S ∉ [s.heap.objs.size] := fun hm => hSI (List.mem_singleton.mp hm)
  have W := (Walks.longrange (prog := prog) (w := w) (A := A.in1) hh s.heap.objs.size a 1 n).toS
  have key : ∀ (h : Heap) (c₁ tk : Nat), IsLongIter h s.heap.objs.size (a + ((0 : Nat) : Int) * 1) ((n : Int) - ((0 : Nat) : Int)) 1 → (∀ b o, b ≠ S → s.heap.get? b = some o → h.get? b = some o) →
      h.get? S = some { cls := .type "list", data := .seq #[] c₁ } → codeAny (model prog w) A (.builtin "list.extend.loop" ⟨[.ref S, .ref s.heap.objs.size, res], []⟩) R { s with heap := h, toks := tk } := by
    intro h c₁ tk hit hk hS₁
    refine codeAny_extend_loopS W (by rw [sizeLine_eq]; omega) S hSf res n 0 _ #[] c₁ rfl (Nat.zero_le _) hit hS₁ (ItemsOf.nil _) fun s' acc' c' hm hS' hacc => ?_
    rw [Moved.eq_with hm]
    refine hR s'.heap s'.toks acc' c' (fun b o hb e => hm.heap b o (fun hmem => ?_) (hk b o hb e)) hS' hacc
    rcases List.mem_cons.mp hmem with e' | hmem
    · exact hb e'
    · exact absurd (Heap.lt_size e) (by rw [List.mem_singleton.mp hmem]; exact Nat.lt_irrefl _)
  unfold Builtin.List.listExtendWith
  refine wpAny_bind (wpAny_typeOf (T := "range") ⟨_, hr, rfl⟩ ?_)
  have h1 : Builtin.List.listSameRef (.ref S) (.ref r) = false := by simp [Builtin.List.listSameRef, hSr]
  have h2 : (Value.type "range" == Value.type "list") = false := by decide
  have h3 : (Value.type "range" == Value.type "tuple") = false := by decide
  simp only [h1, h2, h3, Bool.or_false, Bool.false_eq_true, if_false]
  refine wpAny_bind (wpAny_pyIter_longrange hr hbig ?_)
  refine wpAny_bind (wpAny_holding (wpAny_hint_range (n := n) (Heap.get?_push_of_some _ hr) hn hlen ?_))
  have hit₁ : IsLongIter (s.heap.push { cls := .type "longrange_iterator", data := .fields #[rawInt a, rawInt (Builtin.Range.rangeSize a b 1), rawInt 1] }) s.heap.objs.size (a + ((0 : Nat) : Int) * 1) ((n : Int) - ((0 : Nat) : Int)) 1 := by
    show IsLongIter _ _ _ _ _; rw [hn]; simpa using Heap.get?_push_size _ rfl
  have hS₁ := Heap.get?_push_of_some { cls := .type "longrange_iterator", data := .fields #[rawInt a, rawInt (Builtin.Range.rangeSize a b 1), rawInt 1] } hS
  refine wpAny_ite_split (fun _ => ?_) (fun _ => wpAny_pure ⟨plainId_quiet F.plain_extend_loop _, key _ c₀ _ hit₁ (fun b o _ e => Heap.get?_push_of_some _ e) hS₁⟩)
  refine wpAny_bind (wpAny_rule ?_)
  refine wpAny_bind ?_
  show wpAny _ _ (updateSeq S (·.push .none) >>= fun _ => updateSeq S (·.pop)) _ _ _
  refine wpAny_bind (wpAny_updateSeq hS₁ rfl ?_)
  have hS₂ := Heap.get?_update_self (Obj.mapSeq (·.push Value.none)) hS₁ rfl
  refine wpAny_updateSeq (hz := by seq_fits) hS₂ rfl ?_
  have hS₃ := Heap.get?_update_self (Obj.mapSeq (·.pop)) hS₂ rfl
  refine wpAny_pure ⟨plainId_quiet F.plain_extend_loop _, key _ _ _ ?_ (fun b o hb e => ?_) hS₃⟩
  · exact (Heap.get?_update_other _ _ hSI).trans ((Heap.get?_update_other _ _ hSI).trans hit₁)
  · exact (Heap.get?_update_other _ _ (Ne.symm hb)).trans ((Heap.get?_update_other _ _ (Ne.symm hb)).trans (Heap.get?_push_of_some _ e))
theorem init_lrange {prog : Program} {w : World} {A : Around} {s : Shared} {R : Result → Shared → Prop} {r : Addr} {a b : Int} {t u v : Tok} {n : Nat} (hh : A.handled = none) (hr : IsRange s.heap r a b 1 t u v) (hbig : Builtin.Range.small a b 1 = false)
    (hn : Builtin.Range.rangeSize a b 1 = n) (hlen : n ≤ 2 ^ 24) (S : Addr) (hS : s.heap.get? S = some { cls := .type "list", data := .seq #[] })
    (hR : ∀ h' tk acc' c', (∀ b o, b ≠ S → s.heap.get? b = some o → h'.get? b = some o) → h'.get? S = some { cls := .type "list", dict := none, data := .seq acc' c', slots := #[] } →
      ItemsOf (fun i v => ∃ t, v = .int (a + i * 1) t) acc' n → R (.ok (.ret .none)) { s with heap := h', toks := tk }) :
    wpAny (model prog w) A.in1 (Builtin.«list.__init__» ⟨[.ref S, .ref r], []⟩)
      (fun fin s' => match fin with | .done f => R (.ok f) s' | .again c' => c'.quiet = true ∧ codeAny (model prog w) A c' R s') (fun e s' => R (.error e) s') s := by
  have hSr : S ≠ r := fun e => by rw [e, hr] at hS; simp at hS
  show wpAny _ _ (do let old ← Builtin.List.listItems (.ref S); Builtin.List.listUpdate (.ref S) (fun _ => #[]); letGo old.toList.reverse; Builtin.List.listExtendWith (.ref S) (.ref r) .none) _ _ s
  refine wpAny_bind ?_
  unfold Builtin.List.listItems
  refine wpAny_bind (wpAny_seqItems hS rfl (wpAny_pure ?_))
  show wpAny _ _ (updateSeq S (fun _ => #[]) >>= fun _ => letGo (#[] : Array Value).toList.reverse >>= fun _ => Builtin.List.listExtendWith (.ref S) (.ref r) .none) _ _ s
  refine wpAny_bind (wpAny_updateSeq hS rfl ?_)
  have hS₂ := Heap.get?_update_self (Obj.mapSeq (fun _ => (#[] : Array Value))) hS rfl
  have oth : ∀ b o, b ≠ S → s.heap.get? b = some o → (s.heap.update S (Obj.mapSeq (fun _ => (#[] : Array Value)))).get? b = some o :=
    fun b o hb e => (Heap.get?_update_other _ _ (Ne.symm hb)).trans e
  refine wpAny_bind (wpAny_letGo ?_)
  refine extend_lrange hh (oth r _ (Ne.symm hSr) hr) hbig hn hlen S .none _ hS₂ fun h' tk acc' c' hk hS' hacc => ?_
  exact hR h' tk acc' c' (fun b o hb e => hk b o hb (oth b o hb e)) hS' hacc
theorem call_list_lrange {prog : Program} {w : World} {A : Around} {E : Value → Shared → Prop} {s : Shared} {Q : Value → Shared → Prop} {r : Addr} {a b : Int} {t u v : Tok} {n : Nat} (hh : A.handled = none) (hr : IsRange s.heap r a b 1 t u v)
    (hn : Builtin.Range.rangeSize a b 1 = n) (hlen : n ≤ 2 ^ 24)
    (hQ : ∀ h' tk acc' c', (∀ b o, s.heap.get? b = some o → h'.get? b = some o) →
      h'.get? s.heap.objs.size = some { cls := .type "list", dict := none, data := .seq acc' c', slots := #[] } → ItemsOf (fun i v => ∃ t, v = .int (a + i * 1) t) acc' n → Q (.ref s.heap.objs.size) { s with heap := h', toks := tk }) :
    wpAny (model prog w) A (call (.type "list") [.ref r]) Q E s := by
  by_cases hs : Builtin.Range.small a b 1 = true
  · exact call_list_range hh hr hs hn hlen hQ
  have hbig : Builtin.Range.small a b 1 = false := by simpa using hs
  refine callType_codes (Q₁ := fun obj s₁ => obj = .ref s.heap.objs.size ∧ s₁ = { s with heap := s.heap.push { cls := .type "list", data := .seq #[] } }) F.called_list (F.typeCall_list_1 _) F.entry_list_init
    (code_list_new _ ⟨rfl, rfl⟩) fun obj s₁ h₁ => ?_
  obtain ⟨rfl, rfl⟩ := h₁
  have hS : (s.heap.push { cls := .type "list", data := .seq #[] }).get? s.heap.objs.size = some { cls := .type "list", data := .seq #[] } := Heap.get?_push_size _ rfl
  have hr1 : IsRange (s.heap.push { cls := .type "list", data := .seq #[] }) r a b 1 t u v := Heap.get?_push_of_some _ hr
  refine ⟨⟨_, hS, rfl⟩, F.args_list_init_2 _ _, init_lrange (A := A.in1) hh hr1 hbig hn hlen _ hS fun h' tk acc' c' hk hS' hacc => ?_⟩
  exact ⟨rfl, hQ h' tk acc' c' (fun b o e => hk b o (Nat.ne_of_lt (Heap.lt_size e)) (Heap.get?_push_of_some _ e)) hS' hacc⟩
theorem pe_listRgB {X : Cx} {e : Expr} {te : L2.St → Hp → (Int → Int → Hp → Prop) → Prop} {p pos : Pos} (hc : X.calm = true) (hg : Gl X "list") (hm : X.mg "list" = none) (he : PRg X e te) (na : starEach [e] X.env = (false, eval e X.env) :: starEach [] X.env := by rfl) :
    PE X (.Call (.Name "list" p) [e] [] pos) (fun σ H Q => te σ H fun a b H1 => (b - a).toNat ≤ 2 ^ 24 ∧ ∀ q, H1 q = none → Q (.ref q) (upd H1 q (.lst (rgV a b)))) := by
  refine ⟨fun pins s σ H Q I h => ?_⟩
  refine Call_ (ld_blt I hg hm boot_list (PyProof.Rows.callWith_type1 (args_cons (thn (he pins s σ H _ I h) fun x s1 ⟨r, a, b, t, u, v, H1, ex, hr, I1, ok, q⟩ => args_nil ?_) na) na))
  subst ex
  refine call_list_lrange (n := (b - a).toNat) (I1.ok.hd hc) hr (rangeSize_nat a b) ok fun h' tk acc c' hk e' hi => ?_
  refine ⟨.ref s1.heap.objs.size, upd H1 s1.heap.objs.size (.lst (rgV a b)), I1.laid hk (Nat.le_refl _) (show ObjOk X.prog X.w _ _ _ (.lst (rgV a b)) from ⟨?_, acc.toList, c', vals_rg hi, ?_⟩), rfl, q _ (I1.hok.fresh (Nat.le_refl _))⟩
  · rw [rgV_length, sizeLine_eq]; omega
  · rw [Array.toArray_toList]; exact e'
/-! a < b < c <= d -/
def tChain3 (r r' r'' : R2) (ta tb tc td : TE) : TE := fun σ H Q => ta σ H fun x H1 => tb σ H1 fun y H2 => r x y H2 fun z H3 => ∃ k, z = .bl k ∧
  (if k = true then tc σ H3 fun w' H4 => r' y w' H4 fun z2 H5 => ∃ k2, z2 = .bl k2 ∧ (if k2 = true then td σ H5 fun u H6 => r'' w' u H6 Q else Q (.bl false) H5) else Q (.bl false) H3)
section
variable {X : Cx} {a b c d : Expr} {ta tb tc td : TE} {pos : Pos}
theorem pe_chain3 {op op' op'' : CmpOp} {r r' r'' : R2} (ho : OpR X (compareOp op) r) (ho' : OpR X (compareOp op') r') (ho'' : OpR X (compareOp op'') r'') (ha : PE X a ta) (hb : PE X b tb) (hc : PE X c tc) (hd : PE X d td)
    (hm : lastMarks [op, op', op''] [b, c, d] = false := by with_unfolding_all rfl) : PE X (.Compare a [op, op', op''] [b, c, d] pos) (tChain3 r r' r'' ta tb tc td) := by
  refine ⟨fun pins s σ H Q I h => ?_⟩
  refine Compare_chain (thn (ha.run pins s σ H _ I h) fun v s1 ⟨x, H1, I1, r1, q1⟩ => chain_link (thn (hb.run pins s1 σ H1 _ I1 q1) fun u s2 ⟨y, H2, I2, r2, q2⟩ =>
    thn (ho pins s2 σ H2 x y v u _ I2 r1 r2 q2) fun d s3 ⟨z, H3, I3, r3, k, e, q3⟩ => ?_)) hm
  subst e
  cases r3
  refine wpAny_truthy_bool ?_
  cases k with
  | false => exact ite_ff ⟨.bl false, H3, I3, rfl, q3⟩
  | true =>
    refine ite_tt (chain_link (thn (hc.run pins s3 σ H3 _ I3 q3) fun w' s4 ⟨z', H4, I4, r4, q4⟩ => thn (ho' pins s4 σ H4 y z' u w' _ I4 r2 r4 q4) fun d s5 ⟨z2, H5, I5, r5, k2, e2, q5⟩ => ?_))
    subst e2
    cases r5
    refine wpAny_truthy_bool ?_
    cases k2 with
    | false => exact ite_ff ⟨.bl false, H5, I5, rfl, q5⟩
    | true => exact ite_tt (chain_last (thn (hd.run pins s5 σ H5 _ I5 q5) fun w2 s6 ⟨z6, H6, I6, r6, q6⟩ => ho'' pins s6 σ H6 z' z6 w' w2 Q I6 r4 r6 q6))
theorem pt_chain3 {op op' op'' : CmpOp} {r r' r'' : R2} (ho : OpR X (compareOp op) r) (ho' : OpR X (compareOp op') r') (ho'' : OpR X (compareOp op'') r'') (ha : PE X a ta) (hb : PE X b tb) (hc : PE X c tc) (hd : PE X d td)
    (hm : lastMarks [op, op', op''] [b, c, d] = false := by with_unfolding_all rfl) : PT X (.Compare a [op, op', op''] [b, c, d] pos) (tTest (tChain3 r r' r'' ta tb tc td)) := by
  refine ⟨fun pins s σ H Q I h => ?_⟩
  refine isTrue_chain (thn (ha.run pins s σ H _ I h) fun v s1 ⟨x, H1, I1, r1, q1⟩ => test_link (thn (hb.run pins s1 σ H1 _ I1 q1) fun u s2 ⟨y, H2, I2, r2, q2⟩ =>
    thn (ho pins s2 σ H2 x y v u _ I2 r1 r2 q2) fun d s3 ⟨z, H3, I3, r3, k, e, q3⟩ => ?_)) hm
  subst e
  cases r3
  refine wpAny_truthy_bool ?_
  cases k with
  | false =>
    obtain ⟨k', e', q'⟩ := q3
    cases e'
    exact ite_ff ⟨H3, I3, q'⟩
  | true =>
    refine ite_tt (test_link (thn (hc.run pins s3 σ H3 _ I3 q3) fun w' s4 ⟨z', H4, I4, r4, q4⟩ => thn (ho' pins s4 σ H4 y z' u w' _ I4 r2 r4 q4) fun d s5 ⟨z2, H5, I5, r5, k2, e2, q5⟩ => ?_))
    subst e2
    cases r5
    refine wpAny_truthy_bool ?_
    cases k2 with
    | false =>
      obtain ⟨k', e', q'⟩ := q5
      cases e'
      exact ite_ff ⟨H5, I5, q'⟩
    | true =>
      refine ite_tt (test_last (thn (hd.run pins s5 σ H5 _ I5 q5) fun w2 s6 ⟨z6, H6, I6, r6, q6⟩ => thn (ho'' pins s6 σ H6 z' z6 w' w2 _ I6 r4 r6 q6) fun d' s7 ⟨z7, H7, I7, r7, k7, e7, q7⟩ => ?_))
      subst e7
      cases r7
      exact wpAny_truthy_bool ⟨H7, I7, q7⟩
end
end PV

/-! expressions run as the small language says: the theorem -/
namespace PV
open PySem PySem.Spec PyProof.Rows L2

/-- an expression's three ways to run -/
structure Snd (X : Cx) (x : Expr) (t : Sg → Mem → K1 → Prop) : Prop where
  pe : PE X x (LE X.K t)
  pt : notIte x = true → PT X x (LT X.K t)
  pw : ∀ op vs p, x = .BoolOp op vs p → PW X x (LT X.K t)

def plainT : Expr → Bool
  | .UnaryOp o _ _ => !decide (o = UnaryOp.Not)
  | .BoolOp _ _ _ => false
  | .IfExp _ _ _ _ => false
  | .Compare _ _ _ _ => false
  | _ => true
section
variable {X : Cx} {x : Expr} {t : Sg → Mem → K1 → Prop}
theorem plain_is (h : plainT x = true) : ∀ whole, isTrue x X.env whole = (do let v ← whole; standAt x.pos; holding [v] (truthy v)) := by
  cases x with
  | UnaryOp o y p => cases o <;> first | (intro _; rfl) | cases h
  | _ => first | (intro _; rfl) | cases h
theorem lt_of_le (hm : ∀ σ μ (Q Q2 : K1), (∀ v μ, Q v μ → Q2 v μ) → t σ μ Q → t σ μ Q2) {σ : L2.St} {H : Hp} {Q : Bool → Hp → Prop} (h : LT X.K t σ H Q) : LE X.K t σ H fun y H2 => ∃ k, TruV X.K y H2 k ∧ Q k H2 := by
  obtain ⟨σv, μ, ρ, s, m, h⟩ := h
  refine LE_mk (hm σv μ) s m h fun v μ1 ρ1 H1 y q g1 m1 r1 s1 => ?_
  unfold tst at q
  split at q
  · rename_i e
    exact ⟨_, truth_V m1 r1 e, q ρ1 H1 g1 m1⟩
  · exact False.elim q
theorem Snd.plain (hm : ∀ σ μ (Q Q2 : K1), (∀ v μ, Q v μ → Q2 v μ) → t σ μ Q → t σ μ Q2) (hp : plainT x = true) (h : PE X x (LE X.K t)) : Snd X x t :=
  ⟨h, fun _ => PT.imp (pt_truth h (plain_is hp)) fun _ _ _ q => lt_of_le hm q, fun op vs p e => by subst e; cases hp⟩
theorem cmpW_bool {op : CmpOp} {μ : Mem} {x y : Vl} {Q : K1} (h : cmpW op μ x y Q) : cmpW op μ x y fun v μ2 => Q v μ2 ∧ ∃ b, v = .bool b := by
  unfold cmpW at h ⊢
  repeat' split at h
  all_goals first
    | exact False.elim h
    | exact ⟨h, _, rfl⟩
    | exact ⟨h.1, h.2, _, rfl⟩
    | exact inW_mono (fun _ q => ⟨q, _, rfl⟩) h
    | exact inS_mono (fun _ q => ⟨q, _, rfl⟩) h
end

section
variable {C : Cfg} {Φ : FnT} {sc : Scope} {fb : Str → Bool} {X : Cx}
theorem Good.blk (g : Good C Φ sc fb X) {scope : Scope} {own : List (Str × Nat)} (ok : BlkOk X.N X.env.scope scope own) (s : Shared) (H : Hp) (Cc : Addr) (cl : List (Str × Addr)) (fp : List Addr) :
    Good C Φ (relS scope sc) (compFb scope) (X.blk s H scope (compEnvC scope cl Cc X.env) fp) where
  calm := g.calm
  N := g.N
  nd := g.nd
  scp := by rw [← g.scp]; rfl
  kind := ok.kind
  fb := fun x h => h
  xe := rfl
  hu := g.hu
  gds := g.gds
  xt := g.xt
  gl := g.gl
  bl := g.bl
  fns := g.fns
  mts := g.mts
  cls := g.cls
  ats := g.ats
  tbs := g.tbs
  lam := g.lam
theorem cst_pe {v : Vl} {c : Const} {j : Nat} {p : Pos} (h : cstB v c = true) : ∃ y, PE X (.Constant c j p) (tC y) ∧ ∀ K ρ H, Rep K ρ H v y := by
  cases v <;> cases c <;> simp only [cstB, decide_eq_true_eq, Bool.false_eq_true] at h
  · exact ⟨_, pe_non, fun _ _ _ => .none⟩
  · subst h; exact ⟨_, pe_bl, fun _ _ _ => .bool _⟩
  · subst h; exact ⟨_, pe_int, fun _ _ _ => .int _⟩
  · subst h; exact ⟨_, pe_str, fun _ _ _ => .str _⟩
theorem bf_of (g : Good C Φ sc fb X) {f : Bf} {n : Str} (h : bfB C f sc n = true) : n = (bfName f).1 ∧ Gl X n ∧ X.mg n = none := by
  unfold bfB at h
  simp only [Bool.and_eq_true, decide_eq_true_eq] at h
  refine ⟨h.1.1, gl_of (by rw [g.scp]; exact h.1.2), g.bl n h.2⟩
theorem chkEs_star : ∀ {es : Es} {xs : List Expr}, chkEs C es sc xs = true → xs.all notStar = true
  | .nil, xs, h => by
    cases xs with
    | nil => rfl
    | cons y ys => simp [chkEs] at h
  | .cons e es, xs, h => by
    cases xs with
    | nil => simp [chkEs] at h
    | cons y ys =>
      simp only [chkEs, Bool.and_eq_true] at h
      rw [List.all_cons, Bool.and_eq_true]
      exact ⟨h.1.1, chkEs_star h.2⟩
theorem chkCs_star : ∀ {es : Es} {xs : List Expr} {ds : List Vl}, chkCs C es sc xs ds = true → xs.all notStar = true
  | .nil, xs, ds, h => by
    cases xs with
    | nil => rfl
    | cons y ys => simp [chkCs] at h
  | .cons e es, xs, ds, h => by
    cases xs with
    | nil => rfl
    | cons y ys =>
      simp only [chkCs, Bool.and_eq_true] at h
      rw [List.all_cons, Bool.and_eq_true]
      exact ⟨h.1.1, chkCs_star h.2⟩
theorem scal_eq {v w : Vl} (h : scalB v w = true) : v = w := by
  cases v <;> cases w <;> simp only [scalB, decide_eq_true_eq, Bool.false_eq_true] at h <;> first | rfl | (subst h; rfl)
theorem dflB_run {G : List (Str × Vl)} : ∀ {es : Es} {ds : List Vl} {σ : Sg} {μ : Mem} {Q : KL}, dflB es ds = true → (wEs Φ G es σ μ Q ↔ Q ds μ)
  | .nil, ds, σ, μ, Q, h => by
    cases ds with
    | nil => exact Iff.rfl
    | cons d ds => simp [dflB] at h
  | .cons e es, ds, σ, μ, Q, h => by
    cases ds with
    | nil => cases e <;> simp [dflB] at h
    | cons d ds =>
      cases e <;> simp only [dflB, Bool.and_eq_true, Bool.false_eq_true] at h
      have := scal_eq h.1
      subst this
      exact dflB_run (es := es) (ds := ds) (Q := fun xs μ2 => Q (_ :: xs) μ2) h.2
theorem wEs_dfl {G : List (Str × Vl)} (hΦ : FLe Φ Φ) : ∀ {es : Es} {xs : List Expr} {ds : List Vl} {σ : Sg} {μ : Mem} {Q : KL}, chkCs C es sc xs ds = true → wEs Φ G es σ μ Q →
    wEs Φ G es σ μ fun vs μ2 => ∃ us, vs = us ++ ds ∧ us.length = xs.length ∧ Q vs μ2
  | .nil, xs, ds, σ, μ, Q, h, q => by
    cases xs with
    | nil =>
      cases ds with
      | nil => exact ⟨[], rfl, rfl, q⟩
      | cons d ds => simp [chkCs] at h
    | cons y ys => simp [chkCs] at h
  | .cons e es, xs, ds, σ, μ, Q, h, q => by
    cases xs with
    | nil =>
      simp only [chkCs] at h
      exact (dflB_run h).mpr ⟨[], rfl, rfl, (dflB_run h).mp q⟩
    | cons y ys =>
      simp only [chkCs, Bool.and_eq_true] at h
      refine wE_le hΦ e σ μ _ _ (fun x μ1 q1 => ?_) q
      refine wEs_le hΦ es σ μ1 _ _ (fun vs μ2 q2 => ?_) (wEs_dfl hΦ h.2 q1)
      obtain ⟨us, e1, e2, q2⟩ := q2
      exact ⟨x :: us, by rw [e1]; rfl, by simp [e2], q2⟩
end

def spArgs (K : PySem.W.Frag) (n : Nat) (ds : List Vl) (t : Sg → Mem → KL → Prop) : TA := fun σ H Q => ∃ σv μ ρ, SgOk K ρ H σv σ ∧ MemOk K ρ H μ ∧ t σv μ (fun vs μ2 => ∃ us, vs = us ++ ds ∧ us.length = n ∧ LKL K ρ H Q us μ2)


section
variable {C : Cfg} {Φ : FnT} {sc : Scope} {fb : Str → Bool} {X : Cx}
theorem blt_pe (hc : X.calm = true) (hu : X.A.units + 65 < cLine) (hxt : Xtra X.base) {f : Bf} {n : Str} (hf : isIs f = false) (hn : n = (bfName f).1) (gl : Gl X n) (hm : X.mg n = none) {y : Expr} {ys : List Expr} {t : TA} {p pos : Pos} (ha : PA X (y :: ys) t) (st : (y :: ys).all notStar = true) :
    PE X (.Call (.Name n p) (y :: ys) [] pos) (tCB (LRL X.K (bfW f)) t) := by
  rw [List.all_cons, Bool.and_eq_true] at st
  subst hn
  cases f <;> first
    | exact absurd hf (by decide)
    | exact pe_callB (opBf hc hu hxt _ hf) gl hm (by decide +kernel) ha (by decide) (by decide) (star_cons st.1) (star_any st.2)
    | exact pe_callTy (opBf hc hu hxt _ hf) gl hm (by decide +kernel) ha (by decide) (by decide) (star_cons st.1) (star_any st.2)
theorem is_boot {f : Bf} (hf : isIs f = true) : bootBuiltins (Str.ofString (bfName f).2.2) = some (.type (bfName f).2.2) ∧ Str.ofString (bfName f).2.2 ≠ "__name__" ∧ ((Str.ofString (bfName f).2.2 : Str) == ("__debug__" : Str)) = false ∧ (bfName f).1 = "isinstance" := by
  cases f <;> first
    | exact absurd hf (by decide)
    | exact ⟨by decide +kernel, by decide +kernel, by decide +kernel, rfl⟩
theorem is_pe {f : Bf} {n : Str} (hf : isIs f = true) (hn : n = (bfName f).1) (gl : Gl X n) (hm : X.mg n = none) {y : Expr} {te : TE} {tp : Pos} {p pos : Pos} (ha : PE X y te) (st : notStar y = true)
    (glT : Gl X (Str.ofString (bfName f).2.2)) (hT : X.mg (Str.ofString (bfName f).2.2) = none) :
    PE X (.Call (.Name n p) [y, .Name (Str.ofString (bfName f).2.2) tp] [] pos) (tCB (fun xs H Q => ∃ x v μ ρ, xs = [x, .ty (bfName f).2.2] ∧ MemOk X.K ρ H μ ∧ Rep X.K ρ H v x ∧ bfW f μ [v] (LK X.K ρ H Q)) (tCons te (tCons (tC (.ty (bfName f).2.2)) tNil))) := by
  obtain ⟨b1, b2, b3, b4⟩ := is_boot hf
  rw [b4] at hn
  subst hn
  exact pe_callB (opIs f hf) gl hm (by decide +kernel) (pa_cons ha (pa_cons (pe_bltn (v := .ty (bfName f).2.2) glT hT b1 rfl b2 b3) pa_nil rfl) (star_cons st)) (by decide) (by decide) (star_cons st) rfl

theorem mth_pe0 (hu : X.A.units + 65 < cLine) {f : Mf} {n : Str} {o : Expr} {to : TE} {ap cp : Pos} (hn : n = (mfName f).1) (ho : PE X o to) (hb : noCall0 o = true) (hl : (ap.endLine == cp.line) = true) :
    PE X (.Call (.Attribute o n ap) [] [] cp) (tBM0 X.K "list" (LMt X.K f) to) := by
  subst hn
  have hbase := attr_base (f := (mfName f).1) (env := X.env) hb
  cases f with
  | append => exact pe_bm0 PySem.F.plainAttrs_list PySem.F.slot_list_append PySem.F.type_list_append (opMf hu .append) ho hbase hl
  | extend => exact pe_bm0 PySem.F.plainAttrs_list PySem.F.slot_list_extend PySem.F.type_list_extend (opMf hu .extend) ho hbase hl
  | pop => exact pe_bm0 PySem.F.plainAttrs_list PySem.F.slot_list_pop PySem.F.type_list_pop (opMf hu .pop) ho hbase hl
  | popAt => exact pe_bm0 PySem.F.plainAttrs_list PySem.F.slot_list_pop PySem.F.type_list_pop (opMf hu .popAt) ho hbase hl
  | insert => exact pe_bm0 PySem.F.plainAttrs_list PySem.F.slot_list_insert PySem.F.type_list_insert (opMf hu .insert) ho hbase hl
  | count => exact pe_bm0 PySem.F.plainAttrs_list PySem.F.slot_list_count PySem.F.type_list_count (opMf hu .count) ho hbase hl
  | index => exact pe_bm0 PySem.F.plainAttrs_list PySem.F.slot_list_index PySem.F.type_list_index (opMf hu .index) ho hbase hl
theorem mth_pe (hu : X.A.units + 65 < cLine) {f : Mf} {n : Str} {o y : Expr} {ys : List Expr} {to : TE} {t : TA} {ap cp : Pos} (hn : n = (mfName f).1) (ho : PE X o to) (ha : PA X (y :: ys) t) (st : (y :: ys).all notStar = true) (hb : noCall0 o = true) (hl : (ap.endLine == cp.line) = true) (h20 : (y :: ys).length < 20) :
    PE X (.Call (.Attribute o n ap) (y :: ys) [] cp) (tBM X.K "list" (LMt X.K f) to t) := by
  subst hn
  have hbase := attr_base (f := (mfName f).1) (env := X.env) hb
  rw [List.all_cons, Bool.and_eq_true] at st
  have few : ((backTo cp (starEach (y :: ys) X.env)).all (fun x => !x.1) && (backToKw cp (keywordEach [] X.env)).all (fun x => x.1.isSome)
    && decide ((y :: ys).length + ([] : List Keyword).length + (if ([] : List Keyword).isEmpty then 0 else 1) < 30)) = true := by
    rw [star_all (by rw [List.all_cons, st.1, st.2]; rfl), Bool.true_and, Bool.and_eq_true]
    refine ⟨rfl, decide_eq_true ?_⟩
    show (y :: ys).length + 0 + 0 < 30
    omega
  cases f with
  | append => exact pe_bm PySem.F.plainAttrs_list PySem.F.slot_list_append PySem.F.type_list_append (opMf hu .append) ho ha hbase few hl (star_cons st.1) (star_any st.2)
  | extend => exact pe_bm PySem.F.plainAttrs_list PySem.F.slot_list_extend PySem.F.type_list_extend (opMf hu .extend) ho ha hbase few hl (star_cons st.1) (star_any st.2)
  | pop => exact pe_bm PySem.F.plainAttrs_list PySem.F.slot_list_pop PySem.F.type_list_pop (opMf hu .pop) ho ha hbase few hl (star_cons st.1) (star_any st.2)
  | popAt => exact pe_bm PySem.F.plainAttrs_list PySem.F.slot_list_pop PySem.F.type_list_pop (opMf hu .popAt) ho ha hbase few hl (star_cons st.1) (star_any st.2)
  | insert => exact pe_bm PySem.F.plainAttrs_list PySem.F.slot_list_insert PySem.F.type_list_insert (opMf hu .insert) ho ha hbase few hl (star_cons st.1) (star_any st.2)
  | count => exact pe_bm PySem.F.plainAttrs_list PySem.F.slot_list_count PySem.F.type_list_count (opMf hu .count) ho ha hbase few hl (star_cons st.1) (star_any st.2)
  | index => exact pe_bm PySem.F.plainAttrs_list PySem.F.slot_list_index PySem.F.type_list_index (opMf hu .index) ho ha hbase few hl (star_cons st.1) (star_any st.2)
end

/-! ### forms of one part -/
section
variable {C : Cfg} {Φ : FnT} {sc : Scope} {fb : Str → Bool} {X : Cx}
def L1 (K : PySem.W.Frag) (f : X1) : V → Hp → VK → Prop := fun z H Q => ∃ v μ ρ, MemOk K ρ H μ ∧ Rep K ρ H v z ∧ x1W f μ v (LK K ρ H Q)
theorem free_of (g : Good C Φ sc fb X) {n w : Str} (h : freeB C.B sc n w = true) : n = w ∧ Gl X w ∧ X.mg w = none := by
  unfold freeB at h
  simp only [Bool.and_eq_true, decide_eq_true_eq] at h
  obtain ⟨⟨rfl, h2⟩, h3⟩ := h
  exact ⟨rfl, gl_of (by rw [g.scp]; exact h2), g.bl n h3⟩
def isKin : X1 → Bool
  | .kin _ _ => true
  | _ => false
theorem x1_plain {f : X1} {x y : Expr} (hk : isKin f = false) (h : x1A C.B C.T C.me f sc x = some y) : plainT x = true := by
  cases f <;> first | (cases hk; done) | ((unfold x1A at h; simp only at h; split at h) <;> first | rfl | cases h)
/-- a text asked for in a table of the top -/
theorem kin_op (g : Good C Φ sc fb X) {n : Str} {t : List (Str × Int)} {d : Addr} (D : TabK X.K X.w d t) : OpR X (compareOp .In) (fun z u H Q => u = .ref d ∧ L1 X.K (.kin n t) z H Q) := by
  intro pins s σ H x y v u Q I rx ry h
  obtain ⟨rfl, vl, μ, ρ, m, r, q⟩ := h
  obtain ⟨es, k, kd⟩ := D.kd
  unfold x1W at q
  simp only at q
  split at q
  · rename_i z
    cases r
    obtain ⟨r2, e1, e2⟩ := D.rd z
    refine op_in_kd kd pins s σ H (.str z) (.ref d) v u Q I rx ry ⟨z, r2, rfl, rfl, e1, ?_⟩
    have e3 : r2.isSome = (t.lookup z).isSome := by
      split at e2
      · rename_i i e4
        obtain ⟨tk, rfl⟩ := e2
        rw [e4]; rfl
      · rename_i e4
        rw [e2, e4]; rfl
    rw [e3]
    exact q ρ H _ Grow.refl m (.bool _)
  · exact False.elim q
theorem kin_of (g : Good C Φ sc fb X) {n : Str} {t : List (Str × Int)} {x y : Expr} (h : x1A C.B C.T C.me (.kin n t) sc x = some y) : ∃ (m : Str) (p p2 : Pos) (d : Addr), x = .Compare y [.In] [.Name m p] p2 ∧ Gl X m ∧ X.mg m = some (.ref d) ∧ (m == ("__debug__" : Str)) = false ∧ TabK X.K X.w d t := by
  unfold x1A at h
  simp only at h
  split at h
  · split at h
    · rename_i hc
      simp only [Bool.and_eq_true, decide_eq_true_eq] at hc
      obtain ⟨⟨⟨e, h1⟩, h2⟩, h3⟩ := hc
      cases h
      obtain ⟨d, e1, D⟩ := g.tbs _ _ h3
      refine ⟨_, _, _, d, rfl, gl_of (by rw [g.scp]; exact h1), e1, ?_, D⟩
      unfold nameOk at h2
      simp only [Bool.and_eq_true, Bool.not_eq_true'] at h2
      exact h2.1.1
    · cases h
  · cases h
theorem x1_pe (g : Good C Φ sc fb X) {f : X1} {x y : Expr} (h : x1A C.B C.T C.me f sc x = some y) {te : TE} (he : PE X y te) (hm : ∀ σ H (Q Q2 : VK), (∀ z H, Q z H → Q2 z H) → te σ H Q → te σ H Q2) : PE X x (fun σ H Q => te σ H fun z H1 => L1 X.K f z H1 Q) := by
  cases f with
  | lrng =>
    unfold x1A at h
    simp only at h
    split at h
    · split at h
      · rename_i hc
        simp only [Bool.and_eq_true] at hc
        obtain ⟨⟨h1, h2⟩, h3⟩ := hc
        cases h
        obtain ⟨rfl, g1, m1⟩ := free_of g h1
        obtain ⟨rfl, g2, m2⟩ := free_of g h2
        refine PE.imp (pe_listRg g.calm g1 m1 (prg_1 g2 m2 he (star_cons h3))) fun σ H Q q => hm _ _ _ _ (fun z H1 q1 => ?_) q
        obtain ⟨v, μ, ρ, m, r, q1⟩ := q1
        unfold x1W at q1
        simp only at q1
        split at q1
        · rename_i j
          cases r
          refine ⟨j, rfl, ⟨by omega, by omega, by omega, by omega, by omega⟩, fun p hp => ?_⟩
          refine q1.2.lst m ?_ hp
          unfold rgV
          rw [Int.sub_zero]
          have : (List.range j.toNat).map (fun (i : Nat) => Vl.int i) = ((List.range j.toNat).map (fun (i : Nat) => (i : Int))).map Vl.int := by rw [List.map_map]; rfl
          rw [this]
          have e2 : (List.range j.toNat).map (fun (i : Nat) => V.int (0 + (i : Int))) = ((List.range j.toNat).map (fun (i : Nat) => (i : Int))).map V.int := by rw [List.map_map]; exact List.map_congr_left fun i _ => by simp
          rw [e2]
          exact Reps.of_ints _
        · exact False.elim q1
      · cases h
    · cases h
  | repr =>
    unfold x1A at h
    simp only at h
    split at h
    · split at h
      · rename_i hc
        rw [Bool.and_eq_true] at hc
        obtain ⟨h1, h3⟩ := hc
        cases h
        obtain ⟨rfl, g1, m1⟩ := free_of g h1
        refine PE.imp (pe_callB (cr_reprN g.gds g.hu) g1 m1 (by decide +kernel) (pa_cons he pa_nil (star_cons h3)) (by decide) (by decide) (star_cons h3) rfl) fun σ H Q q => hm _ _ _ _ (fun z H1 q1 => ?_) q
        obtain ⟨v, μ, ρ, m, r, q1⟩ := q1
        unfold x1W at q1
        simp only at q1
        split at q1
        · rename_i e1 e2
          have dp := toD_dp m 40 v z _ r e2
          cases v with
          | tup vs =>
            obtain ⟨a, _, rfl, _, _⟩ := r.tup_of
            exact .inl ⟨a, _, rfl, dp, q1.1, q1.2.self m (.str _)⟩
          | ref i =>
            obtain ⟨a, rfl, _⟩ := r.ref_of
            exact .inl ⟨a, _, rfl, dp, q1.1, q1.2.self m (.str _)⟩
          | _ => simp [isDisp] at e1
        · rename_i e1 e2
          split at q1
          · rename_i d e3
            refine .inr (.inr ?_)
            obtain ⟨a, rfl⟩ : ∃ a, z = V.ref a := by
              cases v with
              | tup vs => obtain ⟨a, _, rfl, _, _⟩ := r.tup_of; exact ⟨a, rfl⟩
              | ref i => obtain ⟨a, rfl, _⟩ := r.ref_of; exact ⟨a, rfl⟩
              | _ => simp [isDisp] at e1
            exact .inl ⟨a, _, rfl, fun pins s σ I => toR_reads g.xt I m 60 v (V.ref a) (Value.ref a) _ r rfl e3, q1.1, q1.2.self m (.str _)⟩
          · exact False.elim q1
        · split at q1
          · cases r
            exact .inr (.inl ⟨rfl, q1.self m (.str _)⟩)
          · cases r
            exact .inr (.inr (.inr (.inl ⟨_, rfl, q1.1, q1.2.self m (.str _)⟩)))
          · cases r
            exact .inr (.inr (.inr (.inr (.inl ⟨_, rfl, q1.self m (.str _)⟩))))
          · cases r
            exact .inr (.inr (.inr (.inr (.inr ⟨_, rfl, q1.1, q1.2.self m (.str _)⟩))))
          · exact False.elim q1
      · cases h
    · cases h
  | strI =>
    unfold x1A at h
    simp only at h
    split at h
    · split at h
      · rename_i hc
        rw [Bool.and_eq_true] at hc
        obtain ⟨h1, h3⟩ := hc
        cases h
        obtain ⟨rfl, g1, m1⟩ := free_of g h1
        refine PE.imp (pe_callTy (call_strN g.gds g.hu) g1 m1 (by decide +kernel) (pa_cons he pa_nil (star_cons h3)) (by decide) (by decide) (star_cons h3) rfl) fun σ H Q q => hm _ _ _ _ (fun z H1 q1 => ?_) q
        obtain ⟨v, μ, ρ, m, r, q1⟩ := q1
        unfold x1W at q1
        simp only at q1
        split at q1
        · cases r
          exact .inl (.inl ⟨_, rfl, q1.1, q1.2.self m (.str _)⟩)
        · cases r
          exact .inl (.inr ⟨_, rfl, q1.self m (.str _)⟩)
        · cases r
          exact .inr (.inl ⟨_, rfl, q1.self m (.str _)⟩)
        · split at q1
          · rename_i vs d e2
            have dp := toD_dp m 40 _ z _ r e2
            obtain ⟨a, _, rfl, _, _⟩ := r.tup_of
            exact .inr (.inr ⟨a, _, rfl, dp, q1.1, q1.2.self m (.str _)⟩)
          · exact False.elim q1
        · exact False.elim q1
      · cases h
    · cases h
  | isTL =>
    unfold x1A at h
    simp only at h
    split at h
    · split at h
      · rename_i hc
        simp only [Bool.and_eq_true] at hc
        obtain ⟨⟨⟨h1, h2⟩, h3⟩, h4⟩ := hc
        cases h
        obtain ⟨rfl, g1, m1⟩ := free_of g h1
        obtain ⟨rfl, g2, m2⟩ := free_of g h2
        obtain ⟨rfl, g3, m3⟩ := free_of g h3
        refine PE.imp (pe_isTL he g1 m1 g2 m2 g3 m3 h4) fun σ H Q q => hm _ _ _ _ (fun z H1 q1 => ?_) q
        obtain ⟨v, μ, ρ, m, r, q1⟩ := q1
        unfold x1W at q1
        simp only at q1
        split at q1
        · rename_i b1 b2 e1 e2
          refine ⟨by decide, fun p hp => ?_⟩
          have gr : Grow X.K ρ H1 ρ (upd H1 p (.tup [.ty "tuple", .ty "list"])) := grow_upd (.inl hp)
          have m5 : MemOk X.K ρ (upd H1 p (.tup [.ty "tuple", .ty "list"])) μ := ⟨m.len, fun i o e => by
            obtain ⟨b, e1, ok⟩ := m.at' i o e
            refine ⟨b, e1, ok.grow gr (fun xs q => frzL_upd (.inl hp) q) fun mo w q mu => ?_⟩
            rw [upd_ne (ne_of_none q hp)]
            exact q, m.nd⟩
          have r5 := r.grow gr
          obtain ⟨t, ty, k⟩ | no := isTy_x m5 r5
          case inr => rw [no .isTuple] at e1; cases e1
          have k1 : PySem.W.kitOne X.K t (.type "tuple") = some b1 := k .isTuple b1 e1
          have k2 : PySem.W.kitOne X.K t (.type "list") = some b2 := k .isList b2 e2
          refine ⟨z, p, _, t, [.type "tuple", .type "list"], b1 || b2, rfl, upd_same, .cons (.ty _) (.cons (.ty _) .nil), ty, ?_, (LK.grow gr q1).self m5 (.bool _)⟩
          unfold PySem.W.kitAny
          rw [k1]
          cases b1 with
          | true => rfl
          | false =>
            unfold PySem.W.kitAny
            rw [k2]
            cases b2 <;> rfl
        · exact False.elim q1
      · cases h
    · cases h
  | rev =>
    unfold x1A at h
    simp only at h
    split at h
    · cases h
      refine PE.imp (pe_back he) fun σ H Q q => hm _ _ _ _ (fun z H1 q1 => ?_) q
      obtain ⟨v, μ, ρ, m, r, q1⟩ := q1
      unfold x1W at q1
      simp only at q1
      split at q1
      · obtain ⟨a, xs, rfl, q2, rs⟩ := r.tup_of
        exact ⟨a, xs, rfl, .inr ⟨q2, fun p hp => q1.tup m rs.reverse hp⟩⟩
      · obtain ⟨a, rfl, q2⟩ := r.ref_of
        split at q1
        · rename_i e1
          obtain ⟨xs, q3, rs⟩ := lst_of m e1 q2
          exact ⟨a, xs, rfl, .inl ⟨q3, fun p hp => q1.lst m rs.reverse hp⟩⟩
        · exact False.elim q1
      · exact False.elim q1
    · cases h
  | minD d =>
    unfold x1A at h
    simp only at h
    split at h
    · split at h
      · rename_i hc
        simp only [Bool.and_eq_true, decide_eq_true_eq] at hc
        obtain ⟨⟨⟨h1, h2⟩, rfl⟩, h4⟩ := hc
        cases h
        obtain ⟨rfl, g1, m1⟩ := free_of g h1
        obtain ⟨y0, he2, hy⟩ := cst_pe h4
        refine PE.imp (pe_callBK (cr_minD g.calm g.hu) g1 m1 (by decide +kernel) (pa_cons he pa_nil (star_cons h2)) (pk_cons he2 pk_nil) (by decide) (by decide) (by rw [star_cons h2]; rfl) (by rw [star_cons h2]; rfl)) fun σ H Q q => hm _ _ _ _ (fun z H1 q1 => ?_) q
        obtain ⟨v, μ, ρ, m, r, q1⟩ := q1
        unfold x1W at q1
        simp only at q1
        split at q1
        · rename_i e1
          split at q1
          · rename_i e2
            obtain ⟨p, ys, rfl, r2, q2⟩ := seq_of m e1 r
            have e3 := r2.ints e2
            subst e3
            exact ⟨p, _, _, rfl, rfl, q2, fun z => (q1.1 z).self m (hy _ _ _), fun k a b => (q1.2 k a b).self m (.int _)⟩
          · exact False.elim q1
        · exact False.elim q1
      · cases h
    · cases h
  | maxD d =>
    unfold x1A at h
    simp only at h
    split at h
    · split at h
      · rename_i hc
        simp only [Bool.and_eq_true, decide_eq_true_eq] at hc
        obtain ⟨⟨⟨h1, h2⟩, rfl⟩, h4⟩ := hc
        cases h
        obtain ⟨rfl, g1, m1⟩ := free_of g h1
        obtain ⟨y0, he2, hy⟩ := cst_pe h4
        refine PE.imp (pe_callBK (cr_maxD g.calm g.hu) g1 m1 (by decide +kernel) (pa_cons he pa_nil (star_cons h2)) (pk_cons he2 pk_nil) (by decide) (by decide) (by rw [star_cons h2]; rfl) (by rw [star_cons h2]; rfl)) fun σ H Q q => hm _ _ _ _ (fun z H1 q1 => ?_) q
        obtain ⟨v, μ, ρ, m, r, q1⟩ := q1
        unfold x1W at q1
        simp only at q1
        split at q1
        · rename_i e1
          split at q1
          · rename_i e2
            obtain ⟨p, ys, rfl, r2, q2⟩ := seq_of m e1 r
            have e3 := r2.ints e2
            subst e3
            exact ⟨p, _, _, rfl, rfl, q2, fun z => (q1.1 z).self m (hy _ _ _), fun k a b => (q1.2 k a b).self m (.int _)⟩
          · exact False.elim q1
        · exact False.elim q1
      · cases h
    · cases h
  | lvals =>
    unfold x1A at h
    simp only at h
    split at h
    · split at h
      · rename_i hc
        simp only [Bool.and_eq_true, decide_eq_true_eq] at hc
        obtain ⟨⟨⟨h1, rfl⟩, h3⟩, h4⟩ := hc
        cases h
        obtain ⟨rfl, g1, m1⟩ := free_of g h1
        refine PE.imp (pe_lvals g.calm g1 m1 he (attr_base h3) h4) fun σ H Q q => hm _ _ _ _ (fun z H1 q1 => ?_) q
        obtain ⟨v, μ, ρ, m, r, q1⟩ := q1
        unfold x1W at q1
        simp only at q1
        split at q1
        · split at q1
          · rename_i e1
            obtain ⟨a, rfl, q2⟩ := r.ref_of
            obtain ⟨ks, hd, rel⟩ := dct_of m e1 q2
            refine ⟨?_, a, ks, rfl, rfl, hd, fun p hp => ?_⟩
            · rcases hd with hd | ⟨o, hd⟩
              · exact .inl (.inr (.inr (.inl ⟨rfl, .inl ⟨ks, hd⟩⟩)))
              · exact .inr (.inr ⟨_, ks, o, rfl, hd⟩)
            · have k := upd_more (o := valsO p a) hp
              have m2 := m.more k
              have g2 : Grow X.K ρ H1 ρ _ := Grow.more k
              refine ⟨p, a, ks, rfl, upd_same, hd.imp (k _ _) (fun ⟨o, e⟩ => ⟨o, k _ _ e⟩), fun l hl => ?_⟩
              exact (LK.grow g2 q1).lst m2 (drel_vals (rel.grow g2)) hl
          · exact False.elim q1
        · exact False.elim q1
      · cases h
    · cases h
  | litems =>
    unfold x1A at h
    simp only at h
    split at h
    · split at h
      · rename_i hc
        simp only [Bool.and_eq_true, decide_eq_true_eq] at hc
        obtain ⟨⟨⟨h1, rfl⟩, h3⟩, h4⟩ := hc
        cases h
        obtain ⟨rfl, g1, m1⟩ := free_of g h1
        refine PE.imp (LiI.pe_listItems g.calm he g1 m1 (by decide +kernel) (attr_base (f := "items") (env := X.env) h3) h4) fun σ H Q q => hm _ _ _ _ (fun z H1 q1 => ?_) q
        obtain ⟨v, μ, ρ, m, r, q1⟩ := q1
        unfold x1W at q1
        simp only at q1
        split at q1
        · split at q1
          · rename_i e1
            obtain ⟨a, rfl, q2⟩ := r.ref_of
            obtain ⟨ks, hd, rel⟩ := dctm_of m e1 q2
            refine ⟨a, ks, rfl, hd, fun H' p ts k hp hts hpn hl pr => ?_⟩
            have k0 : ∀ b o, H1 b = some o → (fun b => if b = p then none else H' b) b = some o := fun b o e => by
              have : b ≠ p := ne_of_none e hp
              show (if b = p then none else H' b) = _
              rw [if_neg this]
              exact k b o e
            have eH : upd (fun b => if b = p then none else H' b) p (.lst (ts.map V.ref)) = H' := by
              funext b
              unfold upd
              by_cases c : b = p
              · rw [if_pos c, c, hl]
              · rw [if_neg c]
                exact if_neg c
            have := (LK.grow (Grow.more k0) q1).lst (m.more k0) (items_reps (rel.grow (Grow.more k0)) pr hpn) (p := p) (if_pos rfl)
            rw [eH] at this
            exact this
          · exact False.elim q1
        · exact False.elim q1
      · cases h
    · cases h
  | srtSet =>
    unfold x1A at h
    simp only at h
    split at h
    · split at h
      · rename_i hc
        simp only [Bool.and_eq_true] at hc
        obtain ⟨⟨h1, h2⟩, h3⟩ := hc
        cases h
        obtain ⟨rfl, g1, m1⟩ := free_of g h1
        obtain ⟨rfl, g2, m2⟩ := free_of g h2
        refine PE.imp (pe_srtSet g.calm g1 m1 g2 m2 he (star_cons h3)) fun σ H Q q => hm _ _ _ _ (fun z H1 q1 => ?_) q
        obtain ⟨v, μ, ρ, m, r, q1⟩ := q1
        unfold x1W at q1
        simp only at q1
        split at q1
        · split at q1
          · rename_i e1
            split at q1
            · rename_i e2
              obtain ⟨p, rfl, q⟩ := r.ref_of
              obtain ⟨ys, q2, r2⟩ := lst_of m e1 q
              have e3 := r2.ints e2
              subst e3
              exact ⟨p, _, rfl, q2, q1.1, fun ms p2 a b hp => (q1.2 ms a b).lst m (Reps.of_ints ms) hp⟩
            · exact False.elim q1
          · exact False.elim q1
        · exact False.elim q1
      · cases h
    · cases h
  | minK t d jj =>
    unfold x1A at h
    simp only at h
    split at h
    · split at h
      · rename_i hc
        simp only [Bool.and_eq_true, decide_eq_true_eq] at hc
        obtain ⟨⟨⟨⟨h1, h2⟩, h3⟩, h4⟩, h5⟩ := hc
        cases h
        subst h3
        obtain ⟨rfl, g1, m1⟩ := free_of g h1
        obtain ⟨hr, TB, hcode, hq⟩ := g.lam _ h4
        obtain ⟨x, hdef, W, hnm⟩ := lam_of h5
        refine PE.imp (pe_minKey g.calm hr g1 m1 he TB hcode (hdef _) W hnm (star_cons h2)) fun σ H Q q => hm _ _ _ _ (fun z H1 q1 => ?_) q
        rw [hq]
        obtain ⟨v, μ, ρ, m, r, q1⟩ := q1
        exact keyP_of (g := id) (fun a b => rfl) ⟨v, μ, ρ, m, r, by unfold x1W at q1; exact q1⟩
      · cases h
    · cases h
  | maxK t d jj =>
    unfold x1A at h
    simp only at h
    split at h
    · split at h
      · rename_i hc
        simp only [Bool.and_eq_true, decide_eq_true_eq] at hc
        obtain ⟨⟨⟨⟨h1, h2⟩, h3⟩, h4⟩, h5⟩ := hc
        cases h
        subst h3
        obtain ⟨rfl, g1, m1⟩ := free_of g h1
        obtain ⟨hr, TB, hcode, hq⟩ := g.lam _ h4
        obtain ⟨x, hdef, W, hnm⟩ := lam_of h5
        refine PE.imp (pe_maxKey g.calm hr g1 m1 he TB hcode (hdef _) W hnm (star_cons h2)) fun σ H Q q => hm _ _ _ _ (fun z H1 q1 => ?_) q
        rw [hq]
        obtain ⟨v, μ, ρ, m, r, q1⟩ := q1
        exact keyP_of (g := (- ·)) (fun a b => by simp) ⟨v, μ, ρ, m, r, by unfold x1W at q1; exact q1⟩
      · cases h
    · cases h
  | trev =>
    unfold x1A at h
    simp only at h
    split at h
    · split at h
      · rename_i hc
        simp only [Bool.and_eq_true] at hc
        obtain ⟨⟨h1, h2⟩, h3⟩ := hc
        cases h
        obtain ⟨rfl, g1, m1⟩ := free_of g h1
        obtain ⟨rfl, g2, m2⟩ := free_of g h2
        refine PE.imp (RT.pe_tupRev g.calm g1 m1 g2 m2 he (star_cons h3)) fun σ H Q q => hm _ _ _ _ (fun z H1 q1 => ?_) q
        obtain ⟨v, μ, ρ, m, r, q1⟩ := q1
        unfold x1W at q1
        simp only at q1
        split at q1
        · split at q1
          · rename_i e1
            obtain ⟨p, rfl, q⟩ := r.ref_of
            obtain ⟨ys, q2, r2⟩ := lst_of m e1 q
            exact ⟨p, _, rfl, q2, fun p2 hp => LK.tup q1 m r2.reverse hp⟩
          · exact False.elim q1
        · exact False.elim q1
      · cases h
    · cases h
  | srtItems =>
    unfold x1A at h
    simp only at h
    split at h
    · split at h
      · rename_i hc
        simp only [Bool.and_eq_true, decide_eq_true_eq] at hc
        obtain ⟨⟨⟨h1, rfl⟩, h3⟩, h4⟩ := hc
        cases h
        obtain ⟨rfl, g1, m1⟩ := free_of g h1
        refine PE.imp (pe_srtItemsA g.calm g.hu g1 m1 he (attr_base (f := "items") (env := X.env) h3) h4) fun σ H Q q => hm _ _ _ _ (fun z H1 q1 => ?_) q
        obtain ⟨v, μ, ρ, m, r, q1⟩ := q1
        unfold x1W at q1
        simp only at q1
        split at q1
        · split at q1
          · rename_i e1
            obtain ⟨p, rfl, q⟩ := r.ref_of
            obtain ⟨xs, N⟩ := nd_of m e1 q
            unfold srtW at q1
            split at q1
            · rename_i e2
              refine ⟨N.ty, .inl ⟨p, ρ, _, xs, rfl, rfl, N, fun p2 hp2 => .inl ⟨p2, p, ρ, _, xs, _, rfl, upd_same, N.more (upd_more hp2), e2, q1.1, fun H2 gr zs p3 c d => ?_⟩⟩⟩
              have k : ∀ b o, H1 b = some o → H2 b = some o := fun b o e => gr b o (upd_more hp2 b o e)
              exact (LK.grow (Grow.more k) q1.2).lst (m.more k) c d
            · exact False.elim q1
          · split at q1
            · rename_i e1
              obtain ⟨a, rfl, q2⟩ := r.ref_of
              obtain ⟨ks, hd, rel⟩ := dct_of m e1 q2
              unfold srtW at q1
              split at q1
              · rename_i e2
                refine ⟨?_, .inr ⟨a, ks, rfl, rfl, hd, fun p2 hp2 => .inr ⟨p2, a, ρ, _, ks, _, rfl, upd_same, hd.imp (upd_more hp2 _ _) (fun ⟨o, e⟩ => ⟨o, upd_more hp2 _ _ e⟩), rel.grow (Grow.more (upd_more hp2)), e2, q1.1, fun H2 gr zs p3 c d => ?_⟩⟩⟩
                · rcases hd with hd | ⟨o, hd⟩
                  · exact .inl (.inr (.inr (.inl ⟨rfl, .inl ⟨ks, hd⟩⟩)))
                  · exact .inr (.inr ⟨_, ks, o, rfl, hd⟩)
                · have k : ∀ b o, H1 b = some o → H2 b = some o := fun b o e => gr b o (upd_more hp2 b o e)
                  exact (LK.grow (Grow.more k) q1.2).lst (m.more k) c d
              · exact False.elim q1
            · exact False.elim q1
        · exact False.elim q1
      · cases h
    · cases h
  | kin n t =>
    obtain ⟨m, p, p2, d, rfl, g1, e1, e2, D⟩ := kin_of g h
    refine PE.imp (pe_cmpR (kin_op (n := n) g D) he (pe_glob g1 e1 (show RelV (.ref d) (.ref d) from rfl) e2) rfl) fun σ H Q q => hm _ _ _ _ (fun z H1 q1 => ?_) q
    exact ⟨rfl, q1⟩
  | kix n t =>
    unfold x1A at h
    simp only at h
    split at h
    · split at h
      · rename_i m p yy pp hc
        simp only [Bool.and_eq_true, decide_eq_true_eq] at hc
        obtain ⟨⟨⟨⟨e, h1⟩, h2⟩, hs⟩, h3⟩ := hc
        cases h
        obtain ⟨d, e1, D⟩ := g.tbs _ _ h3
        have hd : (m == ("__debug__" : Str)) = false := by
          unfold nameOk at h2
          simp only [Bool.and_eq_true, Bool.not_eq_true'] at h2
          exact h2.1.1
        refine PE.imp (pe_ix ix_kdict (pe_glob (gl_of (by rw [g.scp]; exact h1)) e1 (show RelV (.ref d) (.ref d) from rfl) hd) he (plain_ix hs)) fun σ H Q q => ?_
        refine hm _ _ _ _ (fun z H1 q1 => ?_) q
        obtain ⟨vl, μ, ρ, mm, r, q1⟩ := q1
        unfold x1W at q1
        simp only at q1
        split at q1
        · rename_i z
          split at q1
          · rename_i i e4
            cases r
            obtain ⟨es, k, kd⟩ := D.kd
            obtain ⟨r2, e5, e6⟩ := D.rd z
            rw [e4] at e6
            obtain ⟨tk, rfl⟩ := e6
            exact ⟨d, z, .int i, rfl, rfl, ⟨es, k, _, kd.at_, kd.lit, e5, ⟨tk, rfl⟩⟩, q1 ρ H1 _ Grow.refl mm (.int i)⟩
          · exact False.elim q1
        · exact False.elim q1
      · cases h
    · cases h
/-- a method of a dict -/
theorem dm_pe (hu : X.A.units + 65 < cLine) {f : Dm} {n : Str} {o y : Expr} {ys : List Expr} {to : TE} {t : TA} {ap cp : Pos} (hn : n = (dmName f).1) (ho : PE X o to) (ha : PA X (y :: ys) t) (st : (y :: ys).all notStar = true) (hb : noCall0 o = true) (hl : (ap.endLine == cp.line) = true) (h20 : (y :: ys).length < 20) :
    PE X (.Call (.Attribute o n ap) (y :: ys) [] cp) (tDM X.K (LDm X.K f) to t) := by
  subst hn
  have hbase := attr_base (f := (dmName f).1) (env := X.env) hb
  rw [List.all_cons, Bool.and_eq_true] at st
  have few : ((backTo cp (starEach (y :: ys) X.env)).all (fun x => !x.1) && (backToKw cp (keywordEach [] X.env)).all (fun x => x.1.isSome)
    && decide ((y :: ys).length + ([] : List Keyword).length + (if ([] : List Keyword).isEmpty then 0 else 1) < 30)) = true := by
    rw [star_all (by rw [List.all_cons, st.1, st.2]; rfl), Bool.true_and, Bool.and_eq_true]
    refine ⟨rfl, decide_eq_true ?_⟩
    show (y :: ys).length + 0 + 0 < 30
    omega
  cases f with
  | get2 => exact pe_dm PySem.F.slot_dict_get PySem.F.type_dict_get (opDm hu .get2) ho ha hbase few hl (star_cons st.1) (star_any st.2)
  | upd => exact pe_dm PySem.F.slot_dict_update PySem.F.type_dict_update (opDm hu .upd) ho ha hbase few hl (star_cons st.1) (star_any st.2)
end
/-! ### what is walked -/
theorem wk_str {K : PySem.W.Frag} {ρ : List Addr} {H : Hp} (z : Str) : WkOk K ρ H ⟨z.cps.toList.map fun c => Vl.str ⟨#[c]⟩, [], none⟩ (Its z) where
  go i ρ2 H2 μ2 h g m _ := by
    rw [List.length_map, Array.length_toList] at h
    exact h
  stop ρ2 H2 μ2 g m _ := by
    show z.cps.size ≤ (z.cps.toList.map _).length
    rw [List.length_map, Array.length_toList]
    exact Nat.le_refl _
  yld i ρ2 H2 μ2 x H3 v g m _ y e := by
    obtain ⟨rfl, c, hc, rfl⟩ := y
    rw [List.getElem?_map, Array.getElem?_toList, hc] at e
    cases e
    exact ⟨Grow.refl, m, .str _⟩
section
variable {X : Cx} {tg : Expr}
/-- a list or a tuple -/
theorem pi_seq {l : Expr} {tl : TE} (hl : PE X l tl) : PI X tg l (fun σ H R => tl σ H fun x H1 => ∃ a, x = .ref a ∧ ((∃ xs, SqL X.K H1 a xs ∧ R (Itl X.K a) H1) ∨ ∃ xs, SqT X.K H1 a xs ∧ R (Itt X.K a) H1)) := by
  refine ⟨fun pins s σ H R I h => ?_⟩
  refine thn (hl.run pins s σ H _ I h) fun v s1 ⟨x, H1, I1, r1, q1⟩ => ?_
  obtain ⟨a, rfl, q1⟩ := q1
  cases r1
  have fresh : ∀ b ∈ [s1.heap.objs.size], FpOk X pins H1 b := fun b hb => by
    have e : b = s1.heap.objs.size := by simpa using hb
    rw [e]
    exact I1.fpOk (Nat.le_refl _) (I1.hok.fresh (Nat.le_refl _))
  have keep : ∀ o : Obj, L2.Inv X pins σ H1 { s1 with heap := s1.heap.push o } := fun o => I1.kept (t' := s1.toks) fun b u e => Heap.get?_push_of_some _ e
  rcases q1 with ⟨xs, hq, q⟩ | ⟨xs, hq, q⟩
  · obtain ⟨its, rv, p, _⟩ := I1.list hq
    exact wpAny_pyIter_list p.isList ⟨_, _, _, _, H1, rfl, keep _, turn_list a _, ⟨_, Heap.get?_push_size _ rfl, rfl, rfl⟩, fresh, q⟩
  · obtain ⟨its, rv, p, _⟩ := I1.tuple hq
    exact wpAny_pyIter_tuple (show s1.heap.IsTuple a its.toArray from p) ⟨_, _, _, _, H1, rfl, keep _, turn_tuple a _, ⟨_, Heap.get?_push_size _ rfl, rfl, rfl⟩, fresh, q⟩
end

section
variable {C : Cfg} {Φ : FnT} {K : PySem.W.Frag}
theorem WkOk.grow {ρ ρ2 : List Addr} {H H2 : Hp} {k : Wk} {J : L2.It} (g : Grow K ρ H ρ2 H2) (w : WkOk K ρ H k J) : WkOk K ρ2 H2 k J :=
  ⟨fun i ρ3 H3 μ3 hi g3 m hg => w.go i ρ3 H3 μ3 hi (g.trans g3) m hg, fun ρ3 H3 μ3 g3 m hg => w.stop ρ3 H3 μ3 (g.trans g3) m hg, fun i ρ3 H3 μ3 x H4 v g3 m hg y e => w.yld i ρ3 H3 μ3 x H4 v (g.trans g3) m hg y e⟩
theorem lcW_gd {D : Nat} {src : List (Nat × List Vl)} {asg : Vl → Sg → (Sg → Prop) → Prop} {cond : Sg → Mem → KB → Prop} {elt : Sg → Mem → K1 → Prop} {σ : Sg} {xs : List Vl} {μ : Mem} {Q : Mem → Prop} (h : lcW D src asg cond elt σ xs μ Q) : gd μ src := by
  cases xs with
  | nil => exact h.1
  | cons x xs => exact h.1
/-- a comprehension's reading -/
theorem lc_read {NF : Addr → Prop} {it : Sg → Mem → (Wk → Mem → Prop) → Prop} {asg : Vl → Sg → (Sg → Prop) → Prop} {cond elt : Sg → Mem → K1 → Prop} {own : List Nat}
    (hi : ∀ σ μ (Q Q2 : Wk → Mem → Prop), (∀ v μ, Q v μ → Q2 v μ) → it σ μ Q → it σ μ Q2) (hs : ∀ v σ (Q Q2 : Sg → Prop), (∀ σ, Q σ → Q2 σ) → asg v σ Q → asg v σ Q2)
    (hc : ∀ σ μ (Q Q2 : K1), (∀ v μ, Q v μ → Q2 v μ) → cond σ μ Q → cond σ μ Q2) (he : ∀ σ μ (Q Q2 : K1), (∀ v μ, Q v μ → Q2 v μ) → elt σ μ Q → elt σ μ Q2) {σ : L2.St} {H : Hp} {Q : VK}
    (h : LE K (fun σ μ Q => it σ μ fun k μ1 => lcW μ1.length k.src asg (fun σ μ Q => cond σ μ (tst Q)) elt (clrsS σ own) k.items (μ1 ++ [.lst []]) fun μ2 => Q (.ref μ1.length) μ2) σ H Q) :
    tLc (LI K NF it) (LG K (some own) asg) (LT K cond) (LE K elt) own σ H Q := by
  obtain ⟨σv, μ, ρ, s, m, h⟩ := h
  refine ⟨σv, μ, ρ, s, m, hi σv μ _ _ (fun k μ1 q1 ρ1 H1 J g1 m1 w1 _ D hD => ?_) h⟩
  have gD : Grow K ρ1 H1 (ρ1 ++ [D]) (upd H1 D (.lst [])) := grow_new hD
  have mD : MemOk K (ρ1 ++ [D]) (upd H1 D (.lst [])) (μ1 ++ [.lst []]) := m1.new hD ⟨[], upd_same, .nil⟩
  have w2 := w1.grow gD
  have atD : ∀ {ρ2 H2}, Grow K (ρ1 ++ [D]) (upd H1 D (.lst [])) ρ2 H2 → ρ2[μ1.length]? = some D := fun {ρ2 H2} g2 => by
    refine g2.at ?_
    rw [← m1.len, List.getElem?_concat_length]
  let go : List Vl → Hp → Prop := fun xs H2 => ∃ μ2 ρ2, Grow K (ρ1 ++ [D]) (upd H1 D (.lst [])) ρ2 H2 ∧ MemOk K ρ2 H2 μ2 ∧
    lcW μ1.length k.src asg (fun σ μ Q => cond σ μ (tst Q)) elt (clrsS σv own) xs μ2 fun μ3 => LK K ρ H Q (.ref μ1.length) μ3
  refine ⟨fun i n H2 => i + n = k.items.length ∧ go (k.items.drop i) H2, ⟨k.items.length, by omega, ?_⟩, fun i n H2 hW => ?_⟩
  · exact ⟨_, _, Grow.refl, mD, q1⟩
  · obtain ⟨en, μ2, ρ2, g2, m2, q2⟩ := hW
    have hgd := lcW_gd q2
    by_cases hlt : i < k.items.length
    · refine .inr ⟨w2.go i ρ2 H2 μ2 hlt g2 m2 hgd, fun H3 => go (k.items.drop (i + 1)) H3, fun H3 h3 => ⟨n - 1, by omega, by omega, h3⟩, fun x H3 y => ?_⟩
      obtain ⟨g3, m3, r3⟩ := w2.yld i ρ2 H2 μ2 x H3 k.items[i] g2 m2 hgd y (List.getElem?_eq_getElem hlt)
      rw [List.drop_eq_getElem_cons hlt] at q2
      have s3 : SgOk K ρ2 H3 (clrsS σv own) (wipe σ own) := (s.clrs own).grow ((g1.trans gD).trans (g2.trans g3))
      refine ⟨_, _, μ2, ρ2, s3, m3, r3, hs _ _ _ _ (fun σv4 q4 σ4 s4 w4 => ?_) q2.2⟩
      have w4' : wipe σ4 own = wipe σ own := by
        have e1 : wipe σ4 own = wipe (wipe σ own) own := w4
        rw [e1]
        have idem : ∀ (o : List Nat) (τ : L2.St), (∀ j ∈ o, j ∈ own) → wipe (wipe τ own) o = wipe τ own := by
          intro o
          induction o with
          | nil => intro τ _; rfl
          | cons j o ih =>
            intro τ hj
            show (wipe (wipe τ own) o).set j none = wipe τ own
            rw [ih τ fun c hc => hj c (List.mem_cons_of_mem _ hc)]
            apply List.ext_getElem?
            intro c
            by_cases hcj : j = c
            · subst hcj
              have hmem := hj j List.mem_cons_self
              by_cases hl : j < (wipe τ own).length
              · rw [List.getElem?_set_self hl]
                cases q : (wipe τ own)[j]? with
                | none => rw [List.getElem?_eq_none_iff] at q; omega
                | some v =>
                  cases v with
                  | none => rfl
                  | some v => exact absurd hmem (wipe_some q).2
              · rw [List.getElem?_eq_none (by simpa using hl), List.getElem?_eq_none (by omega)]
            · rw [List.getElem?_set_ne hcj]
        exact idem own σ fun _ h => h
      have w5 : wipe σ4 own = wipe (wipe σ own) own := w4
      refine ⟨?_, ?_⟩
      · first
          | exact w4'
          | exact w5
      · refine ⟨σv4, μ2, ρ2, s4, m3, hc _ _ _ _ (tst_mono fun b μ5 q5 ρ5 H5 g5 m5 => ?_) q4⟩
        cases b with
        | false => exact iteF ⟨μ5, ρ5, g2.trans (g3.trans g5), m5, q5⟩
        | true =>
          refine iteT ⟨σv4, μ5, ρ5, s4.grow g5, m5, he _ _ _ _ (fun y μ6 q6 ρ6 H6 z g6 m6 r6 => ?_) q5⟩
          have gg : Grow K (ρ1 ++ [D]) (upd H1 D (.lst [])) ρ6 H6 := g2.trans (g3.trans (g5.trans g6))
          cases e : mutAt μ6 μ1.length with
          | none => simp only [e] at q6
          | some acc =>
            simp only [e] at q6
            obtain ⟨acc', e6, ra⟩ := mut_of m6 e (atD gg)
            refine ⟨acc', e6, by rw [← ra.length]; exact q6.1, ?_⟩
            have mu : Mut (H6 D) := by rw [e6]; trivial
            have e7 : μ6[μ1.length]? = some (.lst acc) := by
              unfold mutAt at e
              split at e
              · rename_i e8; cases e; exact e8
              · cases e
            have g7 : Grow K ρ6 H6 ρ6 (upd H6 D (.lst (acc' ++ [z]))) := grow_upd (.inr mu)
            exact ⟨_, ρ6, gg.trans g7, m6.write (ob2 := .lst (acc ++ [y])) e7 (atD gg) rfl ⟨acc' ++ [z], upd_same, (ra.append (.cons r6 .nil)).grow g7⟩ rfl, q6.2⟩
    · have ei : i = k.items.length := by omega
      subst ei
      rw [List.drop_length] at q2
      exact .inl ⟨w2.stop ρ2 H2 μ2 g2 m2 hgd, q2.2 ρ2 H2 _ ((g1.trans gD).trans g2) m2 (.ref (atD g2))⟩
end
def LKD (K : PySem.W.Frag) (ρ : List Addr) (H : Hp) (R : List (V × V) → Hp → Prop) : List (Key × Vl) → Mem → Prop := fun kvs μ1 => ∀ ρ1 H1 (ks : List (Key × V)), Grow K ρ H ρ1 H1 → MemOk K ρ1 H1 μ1 → DRel K ρ1 H1 kvs ks → R (ks.map fun kv => (kV kv.1, kv.2)) H1
set_option maxHeartbeats 2000000
section
variable {C : Cfg} {Φ : FnT} (hΦ : FLe Φ Φ)
include hΦ
mutual
theorem sndE : ∀ (e : IE) (sc : Scope) (x : Expr), chkE C e sc x = true → ∀ (fb : Str → Bool) (X : Cx), Good C Φ sc fb X → Snd X x (wE Φ C.G e)
  | .nop, sc, x, h, fb, X, g => by simp [chkE] at h
  | .var i, sc, x, h, fb, X, g => by
    unfold chkE at h
    split at h
    · simp only [Bool.and_eq_true, decide_eq_true_eq] at h
      obtain ⟨h1, h2, _⟩ := nameOk_of h.2
      refine .plain (wE_le hΦ _) rfl (PE.imp (pe_var (i := i) (by rw [g.N]; exact h.1.1) (by rw [g.scp]; exact vis_of h.1.2) h1 h2) fun σ H Q q => ?_)
      obtain ⟨σv, μ, ρ, s, m, q⟩ := q
      simp only [wE] at q
      split at q
      · rename_i e
        obtain ⟨y, e1, r⟩ := s.at' _ _ e
        exact ⟨y, e1, q.self m r⟩
      · exact False.elim q
    · cases h
  | .glb n, sc, x, h, fb, X, g => by
    unfold chkE at h
    split at h
    · rename_i n' p
      simp only [Bool.and_eq_true, decide_eq_true_eq] at h
      obtain ⟨h1, h2, _⟩ := nameOk_of h.2
      have gl : Gl X n' := gl_of (by rw [g.scp]; exact h.1.2)
      have e0 := h.1.1
      subst e0
      cases q0 : C.G.lookup n' with
      | none =>
        refine .plain (wE_le hΦ _) rfl ⟨fun pins s σ H Q I q => ?_⟩
        obtain ⟨σv, μ, ρ, s, m, q⟩ := q
        simp only [wE, q0] at q
      | some v =>
        obtain ⟨u, y, e1, r1, r2⟩ := g.gl n' v q0
        refine .plain (wE_le hΦ _) rfl (PE.imp (pe_glob gl e1 r1 h1) fun σ H Q q => ?_)
        obtain ⟨σv, μ, ρ, s, m, q⟩ := q
        simp only [wE, q0] at q
        exact q.self m (r2 ρ H)
    · cases h
  | .cst v, sc, x, h, fb, X, g => by
    unfold chkE at h
    split at h
    · obtain ⟨y, h1, h2⟩ := cst_pe (X := X) h
      refine .plain (wE_le hΦ _) rfl (PE.imp h1 fun σ H Q q => ?_)
      obtain ⟨σv, μ, ρ, s, m, q⟩ := q
      exact LK.self q m (h2 _ _ _)
    · cases h
  | .bin op a b, sc, x, h, fb, X, g => by
    unfold chkE at h
    split at h
    · simp only [Bool.and_eq_true, decide_eq_true_eq] at h
      obtain ⟨⟨e0, ha⟩, hb⟩ := h
      subst e0
      refine .plain (wE_le hΦ _) rfl (PE.imp (pe_op (opBin _) (sndE a sc _ ha fb X g).pe (sndE b sc _ hb fb X g).pe) fun σ H Q q => ?_)
      obtain ⟨σv, μ, ρ, s, m, q⟩ := q
      refine LE_mk (wE_le hΦ a σv μ) s m q fun v μ1 ρ1 H1 y q1 g1 m1 r1 s1 => ?_
      refine LE_mk (wE_le hΦ b σv μ1) s1 m1 q1 fun w μ2 ρ2 H2 z q2 g2 m2 r2 s2 => ?_
      exact ⟨v, w, μ2, ρ2, m2, r1.grow g2, r2, binW_mono (lk_grow (g1.trans g2)) q2⟩
    · cases h
  | .neg a, sc, x, h, fb, X, g => by
    unfold chkE at h
    split at h
    · simp only [Bool.and_eq_true, decide_eq_true_eq] at h
      obtain ⟨e0, ha⟩ := h
      subst e0
      refine .plain (wE_le hΦ _) rfl (PE.imp (pe_un un_neg (sndE a sc _ ha fb X g).pe) fun σ H Q q => ?_)
      obtain ⟨σv, μ, ρ, s, m, q⟩ := q
      refine LE_mk (wE_le hΦ a σv μ) s m q fun v μ1 ρ1 H1 y q1 g1 m1 r1 s1 => ?_
      cases v with
      | int i =>
        cases r1
        exact ⟨i, rfl, LK.self (LK.grow g1 q1) m1 (.int _)⟩
      | _ => exact False.elim q1
    · cases h
  | .cmp op a b, sc, x, h, fb, X, g => by
    unfold chkE at h
    split at h
    · simp only [Bool.and_eq_true, decide_eq_true_eq] at h
      obtain ⟨⟨⟨e0, ha⟩, hb⟩, hm⟩ := h
      subst e0
      refine ⟨PE.imp (pe_cmpR (opCmp g.hu _) (sndE a sc _ ha fb X g).pe (sndE b sc _ hb fb X g).pe (nomarkB hm)) fun σ H Q q => ?_,
        fun _ => PT.imp (pt_cmpR (opCmp g.hu _) (sndE a sc _ ha fb X g).pe (sndE b sc _ hb fb X g).pe (nomarkB hm)) fun σ H Q q => ?_, fun op vs p e => nomatch e⟩
      · obtain ⟨σv, μ, ρ, s, m, q⟩ := q
        refine LE_mk (wE_le hΦ a σv μ) s m q fun v μ1 ρ1 H1 y q1 g1 m1 r1 s1 => ?_
        refine LE_mk (wE_le hΦ b σv μ1) s1 m1 q1 fun w μ2 ρ2 H2 z q2 g2 m2 r2 s2 => ?_
        exact ⟨v, w, μ2, ρ2, m2, r1.grow g2, r2, cmpW_mono (lk_grow (g1.trans g2)) q2⟩
      · obtain ⟨σv, μ, ρ, s, m, q⟩ := q
        refine LE_mk (wE_le hΦ a σv μ) s m q fun v μ1 ρ1 H1 y q1 g1 m1 r1 s1 => ?_
        refine LE_mk (wE_le hΦ b σv μ1) s1 m1 q1 fun w μ2 ρ2 H2 z q2 g2 m2 r2 s2 => ?_
        refine ⟨v, w, μ2, ρ2, m2, r1.grow g2, r2, cmpW_mono (fun k μ3 q3 ρ3 H3 y3 g3 m3 r3 => ?_) (cmpW_bool q2)⟩
        obtain ⟨q3, b, rfl⟩ := q3
        cases r3
        exact ⟨b, rfl, q3 ρ3 H3 ((g1.trans g2).trans g3) m3⟩
    · cases h
  | .chn op op2 a b c, sc, x, h, fb, X, g => by
    unfold chkE at h
    split at h
    · simp only [Bool.and_eq_true, decide_eq_true_eq] at h
      obtain ⟨⟨⟨⟨⟨e0, e1⟩, ha⟩, hb⟩, hc⟩, hm⟩ := h
      subst e0 e1
      refine ⟨PE.imp (pe_chain (opCmp g.hu _) (opCmp g.hu _) (sndE a sc _ ha fb X g).pe (sndE b sc _ hb fb X g).pe (sndE c sc _ hc fb X g).pe (nomarkB hm)) fun σ H Q q => ?_,
        fun _ => PT.imp (pt_chain (opCmp g.hu _) (opCmp g.hu _) (sndE a sc _ ha fb X g).pe (sndE b sc _ hb fb X g).pe (sndE c sc _ hc fb X g).pe (nomarkB hm)) fun σ H Q q => ?_, fun op vs p e => nomatch e⟩
      · obtain ⟨σv, μ, ρ, s, m, q⟩ := q
        refine LE_mk (wE_le hΦ a σv μ) s m q fun v μ1 ρ1 H1 y q1 g1 m1 r1 s1 => ?_
        refine LE_mk (wE_le hΦ b σv μ1) s1 m1 q1 fun w μ2 ρ2 H2 z q2 g2 m2 r2 s2 => ?_
        refine ⟨v, w, μ2, ρ2, m2, r1.grow g2, r2, cmpW_mono (fun k μ3 q3 ρ3 H3 y3 g3 m3 r3 => ?_) q2⟩
        cases k with
        | bool k =>
          cases r3
          refine ⟨k, rfl, ?_⟩
          cases k with
          | false => exact iteF (LK.self (LK.grow ((g1.trans g2).trans g3) q3) m3 (.bool _))
          | true =>
            refine iteT (LE_mk (wE_le hΦ c σv μ3) (s2.grow g3) m3 q3 fun w4 μ4 ρ4 H4 z4 q4 g4 m4 r4 s4 => ?_)
            exact ⟨w, w4, μ4, ρ4, m4, (r2.grow g3).grow g4, r4, cmpW_mono (lk_grow (((g1.trans g2).trans g3).trans g4)) q4⟩
        | _ => exact False.elim q3
      · obtain ⟨σv, μ, ρ, s, m, q⟩ := q
        refine LE_mk (wE_le hΦ a σv μ) s m q fun v μ1 ρ1 H1 y q1 g1 m1 r1 s1 => ?_
        refine LE_mk (wE_le hΦ b σv μ1) s1 m1 q1 fun w μ2 ρ2 H2 z q2 g2 m2 r2 s2 => ?_
        refine ⟨v, w, μ2, ρ2, m2, r1.grow g2, r2, cmpW_mono (fun k μ3 q3 ρ3 H3 y3 g3 m3 r3 => ?_) q2⟩
        cases k with
        | bool k =>
          cases r3
          refine ⟨k, rfl, ?_⟩
          cases k with
          | false => exact iteF ⟨false, rfl, q3 ρ3 H3 ((g1.trans g2).trans g3) m3⟩
          | true =>
            refine iteT (LE_mk (wE_le hΦ c σv μ3) (s2.grow g3) m3 q3 fun w4 μ4 ρ4 H4 z4 q4 g4 m4 r4 s4 => ?_)
            refine ⟨w, w4, μ4, ρ4, m4, (r2.grow g3).grow g4, r4, cmpW_mono (fun k5 μ5 q5 ρ5 H5 y5 g5 m5 r5 => ?_) (cmpW_bool q4)⟩
            obtain ⟨q5, b5, rfl⟩ := q5
            cases r5
            exact ⟨b5, rfl, q5 ρ5 H5 ((((g1.trans g2).trans g3).trans g4).trans g5) m5⟩
        | _ => exact False.elim q3
    · cases h
  | .and a b, sc, x, h, fb, X, g => by
    unfold chkE at h
    split at h
    · rename_i o l r rest p
      simp only [Bool.and_eq_true, decide_eq_true_eq] at h
      obtain ⟨⟨⟨e0, ha⟩, hb⟩, hl⟩ := h
      subst e0
      have sa := sndE a sc _ ha fb X g
      have sb : PE X (.BoolOp .And (r :: rest) p) (LE X.K (wE Φ C.G b)) ∧ PW X (.BoolOp .And (r :: rest) p) (LT X.K (wE Φ C.G b)) := by
        cases rest with
        | nil =>
          have hb : (chkE C b sc r && notIte r) = true := hb
          rw [Bool.and_eq_true] at hb
          have sb := sndE b sc _ hb.1 fb X g
          exact ⟨pe_one sb.pe, pw_and1 (sb.pt hb.2)⟩
        | cons y z =>
          have sb := sndE b sc _ hb fb X g
          exact ⟨sb.pe, sb.pw _ _ _ rfl⟩
      have W : PW X (.BoolOp .And (l :: r :: rest) p) (LT X.K (wE Φ C.G (.and a b))) := by
        refine PW.imp (pw_and (sa.pt hl) sb.2) fun σ H Q q => ?_
        obtain ⟨σv, μ, ρ, s, m, q⟩ := q
        refine ⟨σv, μ, ρ, s, m, wE_le hΦ a σv μ _ _ (fun v μ1 q1 => ?_) q⟩
        unfold tst
        cases e : truth μ1 v with
        | none => simp only [e] at q1
        | some k =>
          simp only [e] at q1
          intro ρ1 H1 g1 m1
          cases k with
          | true => exact iteT ⟨σv, μ1, ρ1, s.grow g1, m1, wE_le hΦ b σv μ1 _ _ (tst_grow g1) q1⟩
          | false =>
            refine iteF ?_
            simp only [tst, e, Bool.false_eq_true, if_false] at q1
            exact q1 ρ1 H1 g1 m1
      refine ⟨PE.imp (pe_andT sa.pe sb.1) fun σ H Q q => ?_, fun _ => W.pt, fun op vs p e => by cases e; exact W⟩
      obtain ⟨σv, μ, ρ, s, m, q⟩ := q
      refine LE_mk (wE_le hΦ a σv μ) s m q fun v μ1 ρ1 H1 y q1 g1 m1 r1 s1 => ?_
      cases e : truth μ1 v with
      | none => simp only [e] at q1
      | some k =>
        simp only [e] at q1
        refine ⟨k, truth_V m1 r1 e, ?_⟩
        cases k with
        | true => exact iteT ⟨σv, μ1, ρ1, s1, m1, wE_le hΦ b σv μ1 _ _ (lk_grow g1) q1⟩
        | false => exact iteF (q1 ρ1 H1 y g1 m1 r1)
    · cases h
  | .or a b, sc, x, h, fb, X, g => by
    unfold chkE at h
    split at h
    · rename_i o l r rest p
      simp only [Bool.and_eq_true, decide_eq_true_eq] at h
      obtain ⟨⟨⟨e0, ha⟩, hb⟩, hl⟩ := h
      subst e0
      have sa := sndE a sc _ ha fb X g
      have sb : PE X (.BoolOp .Or (r :: rest) p) (LE X.K (wE Φ C.G b)) ∧ PW X (.BoolOp .Or (r :: rest) p) (LT X.K (wE Φ C.G b)) := by
        cases rest with
        | nil =>
          have hb : (chkE C b sc r && notIte r) = true := hb
          rw [Bool.and_eq_true] at hb
          have sb := sndE b sc _ hb.1 fb X g
          exact ⟨pe_one sb.pe, pw_or1 (sb.pt hb.2)⟩
        | cons y z =>
          have sb := sndE b sc _ hb fb X g
          exact ⟨sb.pe, sb.pw _ _ _ rfl⟩
      have W : PW X (.BoolOp .Or (l :: r :: rest) p) (LT X.K (wE Φ C.G (.or a b))) := by
        refine PW.imp (pw_or (sa.pt hl) sb.2) fun σ H Q q => ?_
        obtain ⟨σv, μ, ρ, s, m, q⟩ := q
        refine ⟨σv, μ, ρ, s, m, wE_le hΦ a σv μ _ _ (fun v μ1 q1 => ?_) q⟩
        unfold tst
        cases e : truth μ1 v with
        | none => simp only [e] at q1
        | some k =>
          simp only [e] at q1
          intro ρ1 H1 g1 m1
          cases k with
          | false => exact iteF ⟨σv, μ1, ρ1, s.grow g1, m1, wE_le hΦ b σv μ1 _ _ (tst_grow g1) q1⟩
          | true =>
            refine iteT ?_
            simp only [tst, e, if_true] at q1
            exact q1 ρ1 H1 g1 m1
      refine ⟨PE.imp (pe_orT sa.pe sb.1) fun σ H Q q => ?_, fun _ => W.pt, fun op vs p e => by cases e; exact W⟩
      obtain ⟨σv, μ, ρ, s, m, q⟩ := q
      refine LE_mk (wE_le hΦ a σv μ) s m q fun v μ1 ρ1 H1 y q1 g1 m1 r1 s1 => ?_
      cases e : truth μ1 v with
      | none => simp only [e] at q1
      | some k =>
        simp only [e] at q1
        refine ⟨k, truth_V m1 r1 e, ?_⟩
        cases k with
        | false => exact iteF ⟨σv, μ1, ρ1, s1, m1, wE_le hΦ b σv μ1 _ _ (lk_grow g1) q1⟩
        | true => exact iteT (q1 ρ1 H1 y g1 m1 r1)
    · cases h
  | .not a, sc, x, h, fb, X, g => by
    unfold chkE at h
    split at h
    · simp only [Bool.and_eq_true, decide_eq_true_eq] at h
      obtain ⟨⟨e0, ha⟩, hl⟩ := h
      subst e0
      have sa := sndE a sc _ ha fb X g
      refine ⟨PE.imp (pe_notT sa.pe) fun σ H Q q => ?_, fun _ => PT.imp (pt_not (sa.pt hl)) fun σ H Q q => ?_, fun op vs p e => nomatch e⟩
      · obtain ⟨σv, μ, ρ, s, m, q⟩ := q
        refine LE_mk (wE_le hΦ a σv μ) s m q fun v μ1 ρ1 H1 y q1 g1 m1 r1 s1 => ?_
        unfold tst at q1
        cases e : truth μ1 v with
        | none => simp only [e] at q1
        | some k =>
          simp only [e] at q1
          exact ⟨k, truth_V m1 r1 e, q1 ρ1 H1 _ g1 m1 (.bool _)⟩
      · obtain ⟨σv, μ, ρ, s, m, q⟩ := q
        refine LT_mk (wE_le hΦ a σv μ) s m q fun b μ1 ρ1 H1 q1 g1 m1 s1 => ?_
        exact q1 ρ1 H1 g1 m1
    · cases h
  | .ite c a b, sc, x, h, fb, X, g => by
    unfold chkE at h
    split at h
    · simp only [Bool.and_eq_true, decide_eq_true_eq] at h
      obtain ⟨⟨⟨hc, hl⟩, ha⟩, hb⟩ := h
      refine ⟨PE.imp (pe_ifExp ((sndE c sc _ hc fb X g).pt hl) (sndE a sc _ ha fb X g).pe (sndE b sc _ hb fb X g).pe) fun σ H Q q => ?_, fun z => (by cases z), fun op vs p e => nomatch e⟩
      obtain ⟨σv, μ, ρ, s, m, q⟩ := q
      refine LT_mk (wE_le hΦ c σv μ) s m q fun k μ1 ρ1 H1 q1 g1 m1 s1 => ?_
      cases k with
      | true => exact iteT ⟨σv, μ1, ρ1, s1, m1, wE_le hΦ a σv μ1 _ _ (lk_grow g1) q1⟩
      | false => exact iteF ⟨σv, μ1, ρ1, s1, m1, wE_le hΦ b σv μ1 _ _ (lk_grow g1) q1⟩
    · cases h
  | .tup es, sc, x, h, fb, X, g => by
    unfold chkE at h
    split at h
    · refine .plain (wE_le hΦ _) rfl (PE.imp (pe_tup (sndEs es sc _ h fb X g)) fun σ H Q q => ?_)
      obtain ⟨σv, μ, ρ, s, m, q⟩ := q
      refine LA_mk (wEs_le hΦ es σv μ) s m q fun vs μ1 ρ1 H1 xs q1 g1 m1 r1 s1 => ?_
      exact ⟨by rw [← r1.length]; exact q1.1, fun p hp => LK.tup (LK.grow g1 q1.2) m1 r1 hp⟩
    · cases h
  | .lst es, sc, x, h, fb, X, g => by
    unfold chkE at h
    split at h
    · refine .plain (wE_le hΦ _) rfl (PE.imp (pe_lst (sndEs es sc _ h fb X g)) fun σ H Q q => ?_)
      obtain ⟨σv, μ, ρ, s, m, q⟩ := q
      refine LA_mk (wEs_le hΦ es σv μ) s m q fun vs μ1 ρ1 H1 xs q1 g1 m1 r1 s1 => ?_
      exact ⟨by rw [← r1.length]; exact q1.1, fun p hp => LK.lst (LK.grow g1 q1.2) m1 r1 hp⟩
    · cases h
  | .idx a b, sc, x, h, fb, X, g => by
    unfold chkE at h
    split at h
    · simp only [Bool.and_eq_true, decide_eq_true_eq] at h
      obtain ⟨⟨ha, hb⟩, hm⟩ := h
      refine .plain (wE_le hΦ _) rfl (PE.imp (pe_ix (opIdx g.hu) (sndE a sc _ ha fb X g).pe (sndE b sc _ hb fb X g).pe (plain_ix hm)) fun σ H Q q => ?_)
      obtain ⟨σv, μ, ρ, s, m, q⟩ := q
      refine LE_mk (wE_le hΦ a σv μ) s m q fun v μ1 ρ1 H1 y q1 g1 m1 r1 s1 => ?_
      refine LE_mk (wE_le hΦ b σv μ1) s1 m1 q1 fun w μ2 ρ2 H2 z q2 g2 m2 r2 s2 => ?_
      exact ⟨v, w, μ2, ρ2, m2, r1.grow g2, r2, idxW_mono (lk_grow (g1.trans g2)) q2⟩
    · cases h
  | .slc a lo hi, sc, x, h, fb, X, g => by
    unfold chkE at h
    split at h
    · rename_i l u v st p2 p
      simp only [Bool.and_eq_true, decide_eq_true_eq] at h
      obtain ⟨⟨⟨ha, hlo⟩, hhi⟩, hst⟩ := h
      cases st with
      | some _ => cases hst
      | none =>
        refine .plain (wE_le hΦ _) rfl (PE.imp (pe_slice opSlc (sndE a sc _ ha fb X g).pe (sndO lo sc _ hlo fb X g) (sndO hi sc _ hhi fb X g)) fun σ H Q q => ?_)
        obtain ⟨σv, μ, ρ, s, m, q⟩ := q
        refine LE_mk (wE_le hΦ a σv μ) s m q fun v μ1 ρ1 H1 y q1 g1 m1 r1 s1 => ?_
        refine ⟨σv, μ1, ρ1, s1, m1, wO_le hΦ lo σv μ1 _ _ (fun o μ2 q2 ρ2 H2 g2 m2 => ?_) q1⟩
        refine ⟨σv, μ2, ρ2, s1.grow g2, m2, wO_le hΦ hi σv μ2 _ _ (fun o3 μ3 q3 ρ3 H3 g3 m3 => ?_) q2⟩
        exact ⟨v, μ3, ρ3, m3, (r1.grow g2).grow g3, slcW_mono (lk_grow ((g1.trans g2).trans g3)) q3⟩
    · cases h
  | .call f es, sc, x, h, fb, X, g => by
    unfold chkE at h
    split at h
    · rename_i n p xs cp
      simp only [Bool.and_eq_true, decide_eq_true_eq] at h
      obtain ⟨⟨⟨e0, hg⟩, hn⟩, hes⟩ := h
      subst e0
      obtain ⟨h1, h2, _⟩ := nameOk_of hn
      have gl : Gl X n := gl_of (by rw [g.scp]; exact hg)
      cases q0 : C.F.lookup n with
      | none => simp only [q0] at hes; cases hes
      | some pd =>
        obtain ⟨ps, ds⟩ := pd
        simp only [q0, Bool.and_eq_true, decide_eq_true_eq] at hes
        obtain ⟨hes, hlen⟩ := hes
        obtain ⟨k, fa, fd, hr, hm, hk, F, hB⟩ := g.fns n ps ds q0
        obtain ⟨us, dvs, hb, hd, hrep⟩ := hB (ds.length - (ps.length - xs.length))
        have pa := sndCs es sc xs _ hes fb X g
        have st := chkCs_star hes
        have fin : ∀ σ H Q, LE X.K (wE Φ C.G (.call n es)) σ H Q → tCall (spOf X.K ps.length (Φ n)) dvs E0 (spArgs X.K xs.length (ds.drop (ds.length - (ps.length - xs.length))) (wEs Φ C.G es)) σ H Q := fun σ H Q q => by
          obtain ⟨σv, μ, ρ, s, m, q⟩ := q
          refine ⟨σv, μ, ρ, s, m, wEs_le hΦ es σv μ _ _ (fun vs μ1 q1 => ?_) (wEs_dfl hΦ hes q)⟩
          obtain ⟨us, e1, e2, q1⟩ := q1
          refine ⟨us, e1, e2, fun ρ1 H1 ys g1 m1 r1 => ⟨?_, vs, μ1, ρ1, m1, ?_, hΦ _ _ _ _ _ (lk_grow g1) q1⟩⟩
          · rw [List.length_append, ← r1.length, e2, ← (hrep ρ1 H1).length]
            exact hlen
          · rw [e1]
            exact r1.append (hrep ρ1 H1)
        cases xs with
        | nil =>
          refine .plain (wE_le hΦ _) rfl (PE.imp (pe_go0 (E := E0) F hr g.gds gl hm hk hb hd h1) fun σ H Q q => ?_)
          obtain ⟨σv, μ, ρ, s, m, q⟩ := fin σ H Q q
          have := sndCs es sc [] _ hes fb X g
          cases es with
          | nil =>
            obtain ⟨us, e1, e2, q⟩ := q
            have e3 : us = [] := List.eq_nil_of_length_eq_zero e2
            subst e3
            exact q ρ H [] Grow.refl m .nil
          | cons e es =>
            simp only [chkCs] at hes
            obtain ⟨us, e1, e2, q⟩ := (dflB_run hes).mp q
            have e3 : us = [] := List.eq_nil_of_length_eq_zero e2
            subst e3
            exact q ρ H [] Grow.refl m .nil
        | cons y ys =>
          rw [List.all_cons, Bool.and_eq_true] at st
          exact .plain (wE_le hΦ _) rfl (PE.imp (pe_go (E := E0) F hr g.gds gl hm hk hb hd pa h1 (star_cons st.1) (star_any st.2)) fin)
    · cases h
  | .blt f es, sc, x, h, fb, X, g => by
    unfold chkE at h
    split at h
    · rename_i n p xs cp
      rw [Bool.and_eq_true] at h
      obtain ⟨hb, h⟩ := h
      obtain ⟨hn, gl, hm⟩ := bf_of g hb
      cases xs with
      | nil => cases h
      | cons y ys =>
        have h : (if isIs f = true then _ else _) = true := h
        by_cases hf : isIs f = true
        · rw [if_pos hf] at h
          split at h
          · rename_i e _ tn tp
            simp only [Bool.and_eq_true, decide_eq_true_eq] at h
            obtain ⟨⟨⟨⟨h1, h2⟩, h3⟩, h4⟩, h5⟩ := h
            subst h3
            refine .plain (wE_le hΦ _) rfl (PE.imp (is_pe hf hn gl hm (sndE e sc _ h1 fb X g).pe h2 (gl_of (by rw [g.scp]; exact h4)) (g.bl _ h5)) fun σ H Q q => ?_)
            obtain ⟨σv, μ, ρ, s, m, q⟩ := q
            refine LE_mk (wE_le hΦ e σv μ) s m q fun v μ1 ρ1 H1 y q1 g1 m1 r1 s1 => ?_
            exact ⟨y, v, μ1, ρ1, rfl, m1, r1, bfW_mono (lk_grow g1) q1⟩
          · cases h
        · rw [if_neg hf] at h
          have hf : isIs f = false := by simpa using hf
          have st := chkEs_star h
          refine .plain (wE_le hΦ _) rfl (PE.imp (blt_pe g.calm g.hu g.xt hf hn gl hm (sndEs es sc _ h fb X g) st) fun σ H Q q => ?_)
          obtain ⟨σv, μ, ρ, s, m, q⟩ := q
          refine LA_mk (wEs_le hΦ es σv μ) s m q fun vs μ1 ρ1 H1 xs q1 g1 m1 r1 s1 => ?_
          exact ⟨vs, μ1, ρ1, m1, r1, bfW_mono (lk_grow g1) q1⟩
    · cases h
  | .mth f a es, sc, x, h, fb, X, g => by
    unfold chkE at h
    split at h
    · rename_i o n ap xs cp
      simp only [Bool.and_eq_true, decide_eq_true_eq] at h
      obtain ⟨⟨⟨⟨⟨hn, hb⟩, ha⟩, hes⟩, hl⟩, h20⟩ := h
      have sa := sndE a sc _ ha fb X g
      have st := chkEs_star hes
      have lst : ∀ {v μ1 ρ1 H1 y}, MemOk X.K ρ1 H1 μ1 → Rep X.K ρ1 H1 v y → isLst μ1 v = true → tyV X.K "list" y H1 := fun {v μ1 ρ1 H1 y} m1 r1 hL => by
        cases v with
        | ref r =>
          obtain ⟨p, rfl, q⟩ := r1.ref_of
          cases e : mutAt μ1 r with
          | none => simp [isLst, e] at hL
          | some vs =>
            obtain ⟨xs, q2, _⟩ := mut_of m1 e q
            exact .inl ⟨rfl, xs, SqL.of q2⟩
        | _ => simp [isLst] at hL
      cases xs with
      | nil =>
        refine .plain (wE_le hΦ _) rfl (PE.imp (mth_pe0 g.hu hn sa.pe hb hl) fun σ H Q q => ?_)
        obtain ⟨σv, μ, ρ, s, m, q⟩ := q
        refine LE_mk (wE_le hΦ a σv μ) s m q fun v μ1 ρ1 H1 y q1 g1 m1 r1 s1 => ?_
        cases es with
        | cons e es => simp [chkEs] at hes
        | nil => exact ⟨lst m1 r1 q1.1, v, [], μ1, ρ1, m1, r1, .nil, mfW_mono (lk_grow g1) q1.2⟩
      | cons y ys =>
        refine .plain (wE_le hΦ _) rfl (PE.imp (mth_pe g.hu hn sa.pe (sndEs es sc _ hes fb X g) st hb hl h20) fun σ H Q q => ?_)
        obtain ⟨σv, μ, ρ, s, m, q⟩ := q
        refine LE_mk (wE_le hΦ a σv μ) s m q fun v μ1 ρ1 H1 y q1 g1 m1 r1 s1 => ?_
        refine ⟨lst m1 r1 q1.1, LA_mk (wEs_le hΦ es σv μ1) s1 m1 q1.2 fun vs μ2 ρ2 H2 xs q2 g2 m2 r2 s2 => ?_⟩
        exact ⟨v, vs, μ2, ρ2, m2, r1.grow g2, r2, mfW_mono (lk_grow (g1.trans g2)) q2⟩
    · cases h
  | .lc own elt tg it c, sc, x, h, fb, X, g => by
    unfold chkE at h
    split at h
    · rename_i e t i ifs as scope p
      simp only [Bool.and_eq_true, decide_eq_true_eq] at h
      obtain ⟨⟨⟨⟨⟨⟨e0, hi⟩, hb⟩, ht⟩, hin⟩, he⟩, hc⟩ := h
      subst e0
      have ok : BlkOk X.N X.env.scope scope own := by
        rw [g.N, g.scp]
        exact blkOk_by hb
      have gb := fun s H Cc cl fp => g.blk ok s H Cc cl fp
      refine .plain (wE_le hΦ _) rfl (PE.imp (pe_lc (g := LG X.K (some (own.map (·.2))) (asgW tg)) (tt := LT X.K (wE Φ C.G c)) (te := LE X.K (wE Φ C.G elt)) g.calm g.nd (sndI it sc i t hi fb X g) ok
        (fun s H Cc cl fp => sndG (X := X.blk s H scope (compEnvC scope cl Cc X.env) fp) (some (own.map fun p : Str × Nat => p.2)) _ g.calm g.nd (fun n hn => loc_of (X := X.blk s H scope (compEnvC scope cl Cc X.env) fp) (fb := compFb scope) (fun x h => h) (by rw [(gb s H Cc cl fp).scp]; exact hn)) tg t (by rw [← g.N] at ht; exact ht) (show inOwn (some (own.map fun p : Str × Nat => p.2)) tg from hin))
        (fun s H Cc cl fp => ?_) (fun s H Cc cl fp => (sndE elt (relS scope sc) e he (compFb scope) _ (gb s H Cc cl fp)).pe) (no_fold ?_)) fun σ H Q q => ?_)
      · split at hc
        · cases c with
          | nop =>
            refine ⟨fun pins s2 σ2 H2 Q2 I2 q2 => pts_nil.run pins s2 σ2 H2 Q2 I2 ?_⟩
            obtain ⟨σv, μ, ρ, s, m, q⟩ := q2
            exact q ρ H2 Grow.refl m
          | _ => cases hc
        · rw [Bool.and_eq_true] at hc
          exact pts_one ((sndE c (relS scope sc) _ hc.1 (compFb scope) _ (gb s H Cc cl fp)).pt hc.2)
        · cases hc
      · cases it <;> simp only [chkI, Bool.and_eq_true] at hi <;> first
          | exact hi.2
          | (cases hi; done)
          | (split at hi
             · rfl
             · cases hi)
      · exact lc_read (wI_le hΦ it) (asgW_mono tg) (wE_le hΦ c) (wE_le hΦ elt) q
    · cases h
  | .x1 f a, sc, x, h, fb, X, g => by
    unfold chkE at h
    split at h
    · rename_i y hy
      have hm : ∀ σ H (Q Q2 : VK), (∀ z H, Q z H → Q2 z H) → LE X.K (wE Φ C.G a) σ H Q → LE X.K (wE Φ C.G a) σ H Q2 := fun σ H Q Q2 hQ q => by
        obtain ⟨σv, μ, ρ, s, m, q⟩ := q
        exact LE_mk (wE_le hΦ a σv μ) s m q fun v μ1 ρ1 H1 z q1 g1 m1 r1 s1 => hQ _ _ (q1 ρ1 H1 z g1 m1 r1)
      have hg : ∀ σ H (Q : VK), LE X.K (wE Φ C.G (.x1 f a)) σ H Q → LE X.K (wE Φ C.G a) σ H fun z H1 => L1 X.K f z H1 Q := fun σ H Q q => by
        obtain ⟨σv, μ, ρ, s, m, q⟩ := q
        refine LE_mk (wE_le hΦ a σv μ) s m q fun v μ1 ρ1 H1 y q1 g1 m1 r1 s1 => ?_
        exact ⟨v, μ1, ρ1, m1, r1, x1W_mono (lk_grow g1) q1⟩
      cases hk : isKin f with
      | false => exact .plain (wE_le hΦ _) (x1_plain hk hy) (PE.imp (x1_pe g hy (sndE a sc y h fb X g).pe hm) hg)
      | true =>
        cases f with
        | kin n t =>
          refine ⟨PE.imp (x1_pe g hy (sndE a sc y h fb X g).pe hm) hg, fun _ => ?_, ?_⟩
          · obtain ⟨m, p, p2, d, rfl, g1, e1, e2, D⟩ := kin_of g hy
            refine PT.imp (pt_cmpR (kin_op (n := n) g D) (sndE a sc _ h fb X g).pe (pe_glob g1 e1 (show RelV (.ref d) (.ref d) from rfl) e2) rfl) fun σ H Q q => ?_
            obtain ⟨σv, μ, ρ, s, m, q⟩ := q
            refine LE_mk (wE_le hΦ a σv μ) s m q fun v μ1 ρ1 H1 z q1 g1 m1 r1 s1 => ?_
            refine ⟨rfl, v, μ1, ρ1, m1, r1, ?_⟩
            unfold x1W at q1 ⊢
            simp only at q1 ⊢
            split at q1
            · refine fun ρ2 H2 y2 g2 m2 r2 => ?_
              cases r2
              exact ⟨_, rfl, q1 ρ2 H2 (g1.trans g2) m2⟩
            · exact False.elim q1
          · obtain ⟨m, p, p2, d, rfl, _⟩ := kin_of g hy
            exact fun op vs p e => nomatch e
        | _ => cases hk
    · cases h
  | .dnew, sc, x, h, fb, X, g => by
    unfold chkE at h
    split at h
    · refine .plain (wE_le hΦ _) rfl (PE.imp pe_dnewK fun σ H Q q => ?_)
      obtain ⟨σv, μ, ρ, s, m, q⟩ := q
      exact fun p hp => LK.dct q m .nil hp
    · cases h
  | .dsp ds, sc, x, h, fb, X, g => by
    unfold chkE at h
    split at h
    · rename_i k ks vs pos
      simp only [Bool.and_eq_true, decide_eq_true_eq] at h
      obtain ⟨trs, hp, go, hall, hlen⟩ := sndDs ds sc (k :: ks) vs pos h.1 fb X g
      refine .plain (wE_le hΦ _) rfl (PE.imp (pe_disp hp hall hlen (by simp) h.2) fun σ H Q q => ?_)
      obtain ⟨σv, μ, ρ, s, m, q⟩ := q
      intro p hnew
      have g0 : Grow X.K ρ H (ρ ++ [p]) (upd H p (.dK [])) := grow_new hnew
      have m0 : MemOk X.K (ρ ++ [p]) (upd H p (.dK [])) (μ ++ [.dct []]) := m.new hnew ⟨[], upd_same, .nil⟩
      refine go σ σv _ _ _ _ (s.grow g0) m0 (wDs_le hΦ ds σv _ _ _ (fun kvs μ1 q1 ρ1 H1 ks g1 m1 rel => ?_) q)
      have at1 : ρ1[μ.length]? = some p := g1.at (by rw [← m.len, List.getElem?_concat_length])
      obtain ⟨ks0, e0, r0⟩ := dctm_of m1 q1.1.2 at1
      cases r0
      exact ⟨e0, ks, rfl, by rw [← rel.length]; exact q1.1.1, LK.dput (LK.grow (g0.trans g1) q1.2) m1 q1.1.2 at1 (rel.merge .nil) (.ref at1)⟩
    · cases h
  | .dsp1 a b, sc, x, h, fb, X, g => by
    unfold chkE at h
    split at h
    · rename_i kx vx pos
      simp only [Bool.and_eq_true] at h
      refine .plain (wE_le hΦ _) rfl (PE.imp (pe_disp1 g.hu (sndE a sc _ h.1 fb X g).pe (sndE b sc _ h.2 fb X g).pe) fun σ H Q q => ?_)
      obtain ⟨σv, μ, ρ, s, m, q⟩ := q
      intro p hnew
      have g0 : Grow X.K ρ H (ρ ++ [p]) (upd H p (.dK [])) := grow_new hnew
      have m0 : MemOk X.K (ρ ++ [p]) (upd H p (.dK [])) (μ ++ [.dct []]) := m.new hnew ⟨[], upd_same, .nil⟩
      refine LE_mk (wE_le hΦ a σv _) (s.grow g0) m0 q fun v μ1 ρ1 H1 y q1 g1 m1 r1 s1 => ?_
      refine LE_mk (wE_le hΦ b σv μ1) s1 m1 q1 fun w μ2 ρ2 H2 z q2 g2 m2 r2 s2 => ?_
      cases e : nkOf v with
      | none => simp only [e] at q2
      | some k =>
        simp only [e] at q2
        obtain ⟨q3, q2⟩ := q2
        have at2 : ρ2[μ.length]? = some p := g2.at (g1.at (by rw [← m.len, List.getElem?_concat_length]))
        obtain ⟨xs, N⟩ := nm_of m2 q3 at2
        have ex : xs = [] := by
          have := N.x.len
          cases xs with
          | nil => rfl
          | cons => cases this
        subst ex
        obtain ⟨h1, _, _, h4⟩ := nkOf_ok e
        have r5 := r1.grow g2
        have r6 := r5
        rw [← h1] at r5
        cases v with
        | tup vs =>
          obtain ⟨d, ys, rfl, _, _⟩ := r6.tup_of
          refine ⟨ρ2, k, d, N, rfl, h4, r5, ?_⟩
          have gg : Grow X.K ρ2 H2 ρ2 (upd H2 p (.ext (NdAt p [(k, d, z)]))) := grow_upd (.inr N.mut)
          have new : ObOk X.K ρ2 (upd H2 p (.ext (NdAt p [(k, d, z)]))) (.ndc [(k, w)]) p := ⟨_, upd_same, .cons ⟨rfl, ⟨r5.grow gg, h4⟩, r2.grow gg⟩ .nil⟩
          have m3 : MemOk X.K ρ2 (upd H2 p (.ext (NdAt p [(k, d, z)]))) (μ2.set μ.length (.ndc [(k, w)])) := by
            rcases nm_at q3 with e | ⟨e, _⟩
            · exact m2.write e at2 rfl new rfl
            · exact m2.write e at2 rfl new rfl
          exact q2 ρ2 _ (.ref p) (((g0.trans g1).trans g2).trans gg) m3 (.ref at2)
        | _ => cases e
    · cases h
  | .dm f a es, sc, x, h, fb, X, g => by
    unfold chkE at h
    split at h
    · rename_i o n ap y ys cp
      simp only [Bool.and_eq_true, decide_eq_true_eq] at h
      obtain ⟨⟨⟨⟨⟨hn, hb⟩, ha⟩, hes⟩, hl⟩, h20⟩ := h
      have sa := sndE a sc _ ha fb X g
      have st := chkEs_star hes
      have isd : ∀ {v μ1 ρ1 H1 y}, MemOk X.K ρ1 H1 μ1 → Rep X.K ρ1 H1 v y → isDct μ1 v = true → tyD X.K y H1 := fun {v μ1 ρ1 H1 y} m1 r1 hL => by
        cases v with
        | ref r =>
          obtain ⟨p, rfl, q⟩ := r1.ref_of
          cases e : dctAt μ1 r with
          | none =>
            cases e2 : ndAt μ1 r with
            | none => simp [isDct, e, e2] at hL
            | some kvs =>
              obtain ⟨xs, N⟩ := nd_of m1 e2 q
              exact N.ty
          | some kvs =>
            obtain ⟨ks, q2, _⟩ := dct_of m1 e q
            rcases q2 with q2 | ⟨o, q2⟩
            · exact .inl (.inr (.inr (.inl ⟨rfl, .inl ⟨ks, q2⟩⟩)))
            · exact .inr (.inr ⟨_, ks, o, rfl, q2⟩)
        | _ => simp [isDct] at hL
      refine .plain (wE_le hΦ _) rfl (PE.imp (dm_pe g.hu hn sa.pe (sndEs es sc _ hes fb X g) st hb hl h20) fun σ H Q q => ?_)
      obtain ⟨σv, μ, ρ, s, m, q⟩ := q
      refine LE_mk (wE_le hΦ a σv μ) s m q fun v μ1 ρ1 H1 y q1 g1 m1 r1 s1 => ?_
      refine ⟨isd m1 r1 q1.1, LA_mk (wEs_le hΦ es σv μ1) s1 m1 q1.2 fun vs μ2 ρ2 H2 xs q2 g2 m2 r2 s2 => ?_⟩
      exact ⟨v, vs, μ2, ρ2, m2, r1.grow g2, r2, dmW_mono (lk_grow (g1.trans g2)) q2⟩
    · cases h
  | .ch3 op op2 op3 a b c d, sc, x, h, fb, X, g => by
    unfold chkE at h
    split at h
    · simp only [Bool.and_eq_true, decide_eq_true_eq] at h
      obtain ⟨⟨⟨⟨⟨⟨⟨e0, e1⟩, e2⟩, ha⟩, hb⟩, hc⟩, hd⟩, hm⟩ := h
      subst e0 e1 e2
      refine ⟨PE.imp (pe_chain3 (opCmp g.hu _) (opCmp g.hu _) (opCmp g.hu _) (sndE a sc _ ha fb X g).pe (sndE b sc _ hb fb X g).pe (sndE c sc _ hc fb X g).pe (sndE d sc _ hd fb X g).pe (nomarkB hm)) fun σ H Q q => ?_,
        fun _ => PT.imp (pt_chain3 (opCmp g.hu _) (opCmp g.hu _) (opCmp g.hu _) (sndE a sc _ ha fb X g).pe (sndE b sc _ hb fb X g).pe (sndE c sc _ hc fb X g).pe (sndE d sc _ hd fb X g).pe (nomarkB hm)) fun σ H Q q => ?_, fun op vs p e => nomatch e⟩
      · obtain ⟨σv, μ, ρ, s, m, q⟩ := q
        refine LE_mk (wE_le hΦ a σv μ) s m q fun v μ1 ρ1 H1 y q1 g1 m1 r1 s1 => ?_
        refine LE_mk (wE_le hΦ b σv μ1) s1 m1 q1 fun w μ2 ρ2 H2 z q2 g2 m2 r2 s2 => ?_
        refine ⟨v, w, μ2, ρ2, m2, r1.grow g2, r2, cmpW_mono (fun k μ3 q3 ρ3 H3 y3 g3 m3 r3 => ?_) q2⟩
        cases k with
        | bool k =>
          cases r3
          refine ⟨k, rfl, ?_⟩
          cases k with
          | false => exact iteF (LK.self (LK.grow ((g1.trans g2).trans g3) q3) m3 (.bool _))
          | true =>
            refine iteT (LE_mk (wE_le hΦ c σv μ3) (s2.grow g3) m3 q3 fun w4 μ4 ρ4 H4 z4 q4 g4 m4 r4 s4 => ?_)
            refine ⟨w, w4, μ4, ρ4, m4, (r2.grow g3).grow g4, r4, cmpW_mono (fun k5 μ5 q5 ρ5 H5 y5 g5 m5 r5 => ?_) q4⟩
            cases k5 with
            | bool k5 =>
              cases r5
              refine ⟨k5, rfl, ?_⟩
              cases k5 with
              | false => exact iteF (LK.self (LK.grow ((((g1.trans g2).trans g3).trans g4).trans g5) q5) m5 (.bool _))
              | true =>
                refine iteT (LE_mk (wE_le hΦ d σv μ5) (s4.grow g5) m5 q5 fun w6 μ6 ρ6 H6 z6 q6 g6 m6 r6 s6 => ?_)
                exact ⟨w4, w6, μ6, ρ6, m6, (r4.grow g5).grow g6, r6, cmpW_mono (lk_grow (((((g1.trans g2).trans g3).trans g4).trans g5).trans g6)) q6⟩
            | _ => exact False.elim q5
        | _ => exact False.elim q3
      · obtain ⟨σv, μ, ρ, s, m, q⟩ := q
        refine LE_mk (wE_le hΦ a σv μ) s m q fun v μ1 ρ1 H1 y q1 g1 m1 r1 s1 => ?_
        refine LE_mk (wE_le hΦ b σv μ1) s1 m1 q1 fun w μ2 ρ2 H2 z q2 g2 m2 r2 s2 => ?_
        refine ⟨v, w, μ2, ρ2, m2, r1.grow g2, r2, cmpW_mono (fun k μ3 q3 ρ3 H3 y3 g3 m3 r3 => ?_) q2⟩
        cases k with
        | bool k =>
          cases r3
          refine ⟨k, rfl, ?_⟩
          cases k with
          | false => exact iteF ⟨false, rfl, q3 ρ3 H3 ((g1.trans g2).trans g3) m3⟩
          | true =>
            refine iteT (LE_mk (wE_le hΦ c σv μ3) (s2.grow g3) m3 q3 fun w4 μ4 ρ4 H4 z4 q4 g4 m4 r4 s4 => ?_)
            refine ⟨w, w4, μ4, ρ4, m4, (r2.grow g3).grow g4, r4, cmpW_mono (fun k5 μ5 q5 ρ5 H5 y5 g5 m5 r5 => ?_) q4⟩
            cases k5 with
            | bool k5 =>
              cases r5
              refine ⟨k5, rfl, ?_⟩
              cases k5 with
              | false => exact iteF ⟨false, rfl, q5 ρ5 H5 ((((g1.trans g2).trans g3).trans g4).trans g5) m5⟩
              | true =>
                refine iteT (LE_mk (wE_le hΦ d σv μ5) (s4.grow g5) m5 q5 fun w6 μ6 ρ6 H6 z6 q6 g6 m6 r6 s6 => ?_)
                refine ⟨w4, w6, μ6, ρ6, m6, (r4.grow g5).grow g6, r6, cmpW_mono (fun k7 μ7 q7 ρ7 H7 y7 g7 m7 r7 => ?_) (cmpW_bool q6)⟩
                obtain ⟨q7, b7, rfl⟩ := q7
                cases r7
                exact ⟨b7, rfl, q7 ρ7 H7 ((((((g1.trans g2).trans g3).trans g4).trans g5).trans g6).trans g7) m7⟩
            | _ => exact False.elim q5
        | _ => exact False.elim q3
    · cases h
  | .lr2 a b, sc, x, h, fb, X, g => by
    unfold chkE at h
    split at h
    · simp only [Bool.and_eq_true] at h
      obtain ⟨⟨⟨⟨⟨h1, h2⟩, h3⟩, h4⟩, h5⟩, h6⟩ := h
      obtain ⟨rfl, g1, m1⟩ := free_of g h1
      obtain ⟨rfl, g2, m2⟩ := free_of g h2
      refine .plain (wE_le hΦ _) rfl (PE.imp (pe_listRgB g.calm g1 m1 (prg_2 g2 m2 (sndE a sc _ h5 fb X g).pe (sndE b sc _ h6 fb X g).pe (star_cons h3) (star_cons h4) (by rw [star_cons h4]; rfl)) rfl) fun σ H Q q => ?_)
      obtain ⟨σv, μ, ρ, s, m, q⟩ := q
      refine LE_mk (wE_le hΦ a σv μ) s m q fun v μ1 ρ1 H1 y q1 g1 m1 r1 s1 => ?_
      refine LE_mk (wE_le hΦ b σv μ1) s1 m1 q1 fun w μ2 ρ2 H2 z q2 g2 m2 r2 s2 => ?_
      cases v with
      | int i =>
        cases w with
        | int j =>
          cases r1; cases r2
          refine ⟨i, j, rfl, rfl, q2.1, fun p hp => ?_⟩
          refine LK.lst (LK.grow (g1.trans g2) q2.2) m2 ?_ hp
          unfold rgV
          have e1 : (List.range (j - i).toNat).map (fun (k : Nat) => Vl.int (i + k)) = ((List.range (j - i).toNat).map (fun (k : Nat) => i + (k : Int))).map Vl.int := by rw [List.map_map]; rfl
          have e2 : (List.range (j - i).toNat).map (fun (k : Nat) => V.int (i + (k : Int))) = ((List.range (j - i).toNat).map (fun (k : Nat) => i + (k : Int))).map V.int := by rw [List.map_map]; rfl
          rw [e1, e2]
          exact Reps.of_ints _
        | _ => exact False.elim q2
      | _ => exact False.elim q2
    · cases h
  | .sm f a es, sc, x, h, fb, X, g => by
    unfold chkE at h
    split at h
    · rename_i o n ap xs cp
      simp only [Bool.and_eq_true, decide_eq_true_eq] at h
      obtain ⟨⟨⟨⟨⟨⟨hn, hb⟩, ha⟩, hes⟩, hl⟩, hk⟩, h1⟩ := h
      have sa := sndE a sc _ ha fb X g
      have isS : ∀ {v ρ1 H1 y}, Rep X.K ρ1 H1 v y → (strOf v).isSome = true → ∃ s, y = V.str s := fun {v ρ1 H1 y} r1 hs => by
        cases v with
        | str s => cases r1; exact ⟨s, rfl⟩
        | _ => simp [strOf] at hs
      cases xs with
      | nil =>
        refine .plain (wE_le hΦ _) rfl (PE.imp (sm_pe0 f (by simpa using hk.symm) hn sa.pe (attr_base hb) hl) fun σ H Q q => ?_)
        obtain ⟨σv, μ, ρ, s, m, q⟩ := q
        refine LE_mk (wE_le hΦ a σv μ) s m q fun v μ1 ρ1 H1 y q1 g1 m1 r1 s1 => ?_
        cases es with
        | cons e es => simp [chkEs] at hes
        | nil => exact ⟨isS r1 q1.1, v, [], μ1, ρ1, m1, r1, .nil, smW_mono (lk_grow g1) q1.2⟩
      | cons y ys =>
        cases ys with
        | cons _ _ => simp at h1
        | nil =>
          cases es with
          | nil => simp [chkEs] at hes
          | cons e es =>
            cases es with
            | cons _ _ => simp [chkEs] at hes
            | nil =>
              simp only [chkEs, Bool.and_eq_true] at hes
              refine .plain (wE_le hΦ _) rfl (PE.imp (sm_pe1 f (by simpa using hk.symm) hn sa.pe (sndE e sc _ hes.1.2 fb X g).pe (star_cons hes.1.1) (attr_base hb) hl) fun σ H Q q => ?_)
              obtain ⟨σv, μ, ρ, s, m, q⟩ := q
              refine LE_mk (wE_le hΦ a σv μ) s m q fun v μ1 ρ1 H1 y q1 g1 m1 r1 s1 => ?_
              refine ⟨isS r1 q1.1, ?_⟩
              have q2 := q1.2
              simp only [wEs] at q2
              refine LE_mk (wE_le hΦ e σv μ1) s1 m1 q2 fun w μ2 ρ2 H2 z q3 g2 m2 r2 s2 => ?_
              exact ⟨v, [w], μ2, ρ2, m2, r1.grow g2, .cons r2 .nil, smW_mono (lk_grow (g1.trans g2)) q3⟩
    · cases h
  | .fst es, sc, x, h, fb, X, g => by
    unfold chkE at h
    split at h
    · rename_i xs pos
      simp only [Bool.and_eq_true] at h
      obtain ⟨h1, h2⟩ := h
      obtain ⟨ts, hp, go⟩ := sndFs es sc xs h1 fb X g
      have fin : ∀ σ H (Q : VK), LE X.K (wE Φ C.G (.fst es)) σ H Q → tJs ts Str.empty σ H fun out H1 => Q (.str out) H1 := fun σ H Q q => by
        obtain ⟨σv, μ, ρ, s, m, q⟩ := q
        exact go σ σv H μ ρ _ _ s m (wFs_le hΦ es σv μ _ _ _ (fun (t : Str) (μ1 : Mem) (q1 : LK X.K ρ H Q (.str t) μ1) ρ1 H1 g1 m1 => q1 ρ1 H1 _ g1 m1 (.str t)) q)
      cases xs with
      | nil => cases h2
      | cons y ys =>
        cases ys with
        | cons y2 ys => exact .plain (wE_le hΦ _) rfl (PE.imp (pe_joined hp) fin)
        | nil =>
          cases hp with
          | cons hy hp =>
            cases hp
            refine .plain (wE_le hΦ _) rfl (PE.imp (pe_joined1s hy) fin)
    · cases h
  | .fld c a f, sc, x, h, fb, X, g => by
    unfold chkE at h
    split at h
    · rename_i o n pos
      simp only [Bool.and_eq_true, decide_eq_true_eq] at h
      obtain ⟨⟨⟨rfl, hb⟩, ha⟩, hat⟩ := h
      obtain ⟨hcl, hno⟩ := g.ats _ hat
      refine .plain (wE_le hΦ _) rfl (PE.imp (pe_fld (sndE a sc _ ha fb X g).pe (attr_base hb)) fun σ H Q q => ?_)
      obtain ⟨σv, μ, ρ, s, m, q⟩ := q
      refine LE_mk (wE_le hΦ a σv μ) s m q fun v μ1 ρ1 H1 y q1 g1 m1 r1 s1 => ?_
      cases v with
      | ref r =>
        obtain ⟨p, rfl, qa⟩ := r1.ref_of
        cases e1 : insAt μ1 r with
        | none => simp only [e1] at q1
        | some o =>
          simp only [e1] at q1
          obtain ⟨e2, q1⟩ := q1
          obtain ⟨dx, ks, e3, rel⟩ := ins_of m1 e1 qa
          rcases fs_lookup (f := n) rel with ⟨e4, e5⟩ | ⟨w, z, e4, e5, rz⟩
          · simp only [e4] at q1
          · simp only [e4] at q1
            rw [e2] at e3
            exact ⟨p, _, dx, ks, z, rfl, e3, hcl, hno, e5, q1 ρ1 H1 z g1 m1 rz⟩
      | _ => exact False.elim q1
    · cases h
  | .mcl c a mm es, sc, x, h, fb, X, g => by
    unfold chkE at h
    split at h
    · rename_i o n apos xs pos
      simp only [Bool.and_eq_true, decide_eq_true_eq] at h
      obtain ⟨⟨⟨⟨rfl, hb⟩, ha⟩, hl⟩, h⟩ := h
      split at h
      · rename_i c2 m2 ps ds hlk
        simp only [Bool.and_eq_true, decide_eq_true_eq, List.isEmpty_iff] at h
        obtain ⟨⟨⟨⟨⟨rfl, rfl⟩, hes⟩, hps⟩, hds⟩, h20⟩ := h
        obtain ⟨k, fd, hr, hcl, hm, F, bd⟩ := g.mts _ _ _ _ hlk hds
        have sa := sndE a sc _ ha fb X g
        have st := chkCs_star hes
        have pa := sndCs es sc xs _ hes fb X g
        have fin : ∀ te : TA, (∀ σ H Q, spArgs X.K xs.length [] (wEs Φ C.G es) σ H Q → te σ H Q) → ∀ σ H (Q : VK), LE X.K (wE Φ C.G (.mcl c2 a m2 es)) σ H Q → tMeth (He.ga X.K c2) m2 (spOf X.K ps.length (Φ (mName c2 m2))) [] E0 (LE X.K (wE Φ C.G a)) te σ H Q := fun te ht σ H Q q => by
          obtain ⟨σv, μ, ρ, s, m, q⟩ := q
          refine LE_mk (wE_le hΦ a σv μ) s m q fun v μ1 ρ1 H1 y q1 g1 m1 r1 s1 => ?_
          cases v with
          | ref r =>
            obtain ⟨p, rfl, qa⟩ := r1.ref_of
            cases e1 : insAt μ1 r with
            | none => simp only [e1] at q1
            | some o =>
              simp only [e1] at q1
              obtain ⟨⟨e2, e4⟩, q1⟩ := q1
              obtain ⟨dx, ks, e3, rel⟩ := ins_of m1 e1 qa
              rw [e2] at e3
              refine ⟨p, dx, ks, rfl, e3, ?_, ht _ _ _ ⟨σv, μ1, ρ1, s1, m1, wEs_le hΦ es σv μ1 _ _ (fun vs μ2 q2 => ?_) (wEs_dfl hΦ hes q1)⟩⟩
              · rcases fs_lookup (f := m2) rel with ⟨_, e5⟩ | ⟨w, z, e5, _⟩
                · exact e5
                · rw [e4] at e5; cases e5
              · obtain ⟨us, f1, f2, q2⟩ := q2
                rw [List.append_nil] at f1
                subst f1
                refine ⟨vs, (List.append_nil _).symm, f2, fun ρ2 H2 zs g2 m2 r2 => ?_⟩
                show spOf X.K ps.length _ (V.ref p :: (zs ++ [])) H2 Q E0
                rw [List.append_nil]
                have rr : Reps X.K ρ2 H2 (.ref r :: vs) (.ref p :: zs) := .cons (.ref (g2.at qa)) r2
                exact ⟨by rw [← rr.length, List.length_cons, f2]; exact hps, .ref r :: vs, μ2, ρ2, m2, rr, hΦ _ _ _ _ _ (lk_grow (g1.trans g2)) q2⟩
          | _ => exact False.elim q1
        cases xs with
        | nil =>
          refine .plain (wE_le hΦ _) rfl (PE.imp (pe_goM0 (E := E0) sa.pe hcl hm F (hr.mono (Nat.le_succ _)) g.gds bd (attr_base hb) hl) (fin _ fun σ H Q q => ?_))
          cases es with
          | nil =>
            obtain ⟨σv, μ, ρ, s, m, us, e1, e2, q⟩ := q
            have e3 : us = [] := List.eq_nil_of_length_eq_zero e2
            subst e3
            exact q ρ H [] Grow.refl m .nil
          | cons e es => cases e <;> simp [chkCs, dflB] at hes
        | cons y ys =>
          rw [List.all_cons, Bool.and_eq_true] at st
          have few : ((backTo pos (starEach (y :: ys) X.env)).all (fun x => !x.1) && (backToKw pos (keywordEach [] X.env)).all (fun x => x.1.isSome)
            && decide ((y :: ys).length + ([] : List Keyword).length + (if ([] : List Keyword).isEmpty then 0 else 1) < 30)) = true := by
            rw [star_all (by rw [List.all_cons, st.1, st.2]; rfl), Bool.true_and, Bool.and_eq_true]
            refine ⟨rfl, decide_eq_true ?_⟩
            show (y :: ys).length + 0 + 0 < 30
            omega
          exact .plain (wE_le hΦ _) rfl (PE.imp (pe_goM (E := E0) sa.pe hcl hm F (hr.mono (Nat.le_succ _)) g.gds bd pa (star_cons st.1) (star_any st.2) (attr_base hb) few hl) (fin _ fun _ _ _ q => q))
      · cases h
    · cases h
  | .new c es, sc, x, h, fb, X, g => by
    unfold chkE at h
    split at h
    · rename_i n p xs cp
      simp only [Bool.and_eq_true, decide_eq_true_eq] at h
      obtain ⟨⟨⟨⟨rfl, hg⟩, hn⟩, hcl⟩, h⟩ := h
      obtain ⟨h1, h2, _⟩ := nameOk_of hn
      have gl : Gl X n := gl_of (by rw [g.scp]; exact hg)
      split at h
      · rename_i c2 m2 ps ds hlk
        simp only [Bool.and_eq_true, decide_eq_true_eq, List.isEmpty_iff] at h
        obtain ⟨⟨⟨⟨rfl, rfl⟩, hes⟩, hps⟩, hds⟩ := h
        obtain ⟨k, fd, hr, _, hm, F, bd⟩ := g.mts _ _ _ _ hlk hds
        obtain ⟨mk, mgc⟩ := g.cls _ hcl
        have st := chkCs_star hes
        have pa := sndCs es sc xs _ hes fb X g
        have fin : ∀ σ H (Q : VK), LE X.K (wE Φ C.G (.new c2 es)) σ H Q → tMakeG (He.ga X.K c2) (spOf X.K ps.length (Φ (mName c2 "__init__"))) E0 (spArgs X.K xs.length [] (wEs Φ C.G es)) σ H Q := fun σ H Q q => by
          obtain ⟨σv, μ, ρ, s, m, q⟩ := q
          refine ⟨σv, μ, ρ, s, m, wEs_le hΦ es σv μ _ _ (fun vs μ2 q2 => ?_) (wEs_dfl hΦ hes q)⟩
          obtain ⟨us, f1, f2, q2⟩ := q2
          rw [List.append_nil] at f1
          subst f1
          refine ⟨vs, (List.append_nil _).symm, f2, fun ρ2 H2 zs g2 m2 r2 x dx hx hdx ne => ?_⟩
          have kk := upd_more (o := HO.own x) hdx
          have g3 : Grow X.K ρ2 H2 ρ2 (upd H2 dx (.own x)) := Grow.more kk
          have m3 := m2.more kk
          have hx2 : upd H2 dx (.own x) x = none := by rw [upd_ne (Ne.symm ne)]; exact hx
          have g4 : Grow X.K ρ2 (upd H2 dx (.own x)) (ρ2 ++ [x]) (upd (upd H2 dx (.own x)) x (.ins (He.ga X.K c2) dx [])) := grow_new hx2
          have m4 := m3.new (ob := .ins c2 []) (o := .ins (He.ga X.K c2) dx []) hx2 ⟨dx, [], upd_same, .nil⟩
          have at4 : (ρ2 ++ [x])[μ2.length]? = some x := by rw [← m2.len, List.getElem?_concat_length]
          have rr : Reps X.K (ρ2 ++ [x]) (upd (upd H2 dx (.own x)) x (.ins (He.ga X.K c2) dx [])) (.ref μ2.length :: vs) (.ref x :: zs) := .cons (.ref at4) (r2.grow (g3.trans g4))
          refine ⟨by rw [← rr.length, List.length_cons, f2]; exact hps, .ref μ2.length :: vs, _, _, m4, rr, hΦ _ _ _ _ _ (fun v μ5 q5 ρ5 H5 y g5 m5 r5 => ?_) q2⟩
          refine ⟨?_, q5.2 ρ5 H5 _ (((g2.trans g3).trans g4).trans g5) m5 (.ref (g5.at at4))⟩
          have q6 := q5.1
          cases v with
          | none => cases r5; rfl
          | _ => cases q6
        cases xs with
        | nil =>
          refine .plain (wE_le hΦ _) rfl (PE.imp (pe_goNew0 (E := E0) mk F hr g.gds gl mgc bd h1) fun σ H Q q => ?_)
          obtain ⟨σv, μ, ρ, s, m, q⟩ := fin σ H Q q
          cases es with
          | nil =>
            obtain ⟨us, e1, e2, q⟩ := q
            have e3 : us = [] := List.eq_nil_of_length_eq_zero e2
            subst e3
            exact q ρ H [] Grow.refl m .nil
          | cons e es => cases e <;> simp [chkCs, dflB] at hes
        | cons y ys =>
          rw [List.all_cons, Bool.and_eq_true] at st
          exact .plain (wE_le hΦ _) rfl (PE.imp (pe_goNew (E := E0) mk F hr g.gds gl mgc bd pa h1 (star_cons st.1) (star_any st.2)) fin)
      · cases h
    · cases h
theorem sndFs : ∀ (es : Es) (sc : Scope) (xs : List Expr), chkFs C es sc xs = true → ∀ (fb : Str → Bool) (X : Cx), Good C Φ sc fb X →
    ∃ ts, PJ X xs ts ∧ ∀ (σ : L2.St) (σv : Sg) (H : Hp) (μ : Mem) (ρ : List Addr) (acc : Str) (Q : Str → Hp → Prop), SgOk X.K ρ H σv σ → MemOk X.K ρ H μ →
      wFs Φ C.G es σv μ acc (fun s μ1 => ∀ ρ1 H1, Grow X.K ρ H ρ1 H1 → MemOk X.K ρ1 H1 μ1 → Q s H1) → tJs ts acc σ H Q
  | .nil, sc, xs, h, fb, X, g => by
    cases xs with
    | cons y ys => simp [chkFs] at h
    | nil => exact ⟨[], .nil, fun σ σv H μ ρ acc Q s m q => q ρ H Grow.refl m⟩
  | .cons e es, sc, xs, h, fb, X, g => by
    unfold chkFs at h
    split at h
    · rename_i y c f pos ys
      simp only [Bool.and_eq_true, decide_eq_true_eq, Option.isNone_iff_eq_none] at h
      obtain ⟨⟨⟨rfl, rfl⟩, he⟩, hr⟩ := h
      obtain ⟨ts, hp, go⟩ := sndFs es sc ys hr fb X g
      refine ⟨_, .cons (pe_fmt (sndE e sc y he fb X g).pe) hp, fun σ σv H μ ρ acc Q s m q => ?_⟩
      refine LE_mk (wE_le hΦ e σv μ) s m q fun v μ1 ρ1 H1 z q1 g1 m1 r1 s1 => ?_
      obtain ⟨q1, q2⟩ := q1
      cases v with
      | str a =>
        cases r1
        refine .inl ⟨a, rfl, q1, a, rfl, q2.1, go σ σv H1 μ1 ρ1 _ Q s1 m1 (wFs_le hΦ es σv μ1 _ _ _ (fun t μ2 q3 ρ2 H2 g2 m2 => q3 ρ2 H2 (g1.trans g2) m2) q2.2)⟩
      | int i =>
        cases r1
        refine .inr ⟨i, rfl, q1, _, rfl, q2.1, go σ σv H1 μ1 ρ1 _ Q s1 m1 (wFs_le hΦ es σv μ1 _ _ _ (fun t μ2 q3 ρ2 H2 g2 m2 => q3 ρ2 H2 (g1.trans g2) m2) q2.2)⟩
      | _ => exact False.elim q1
    · rename_i c k pos ys
      simp only [Bool.and_eq_true] at h
      obtain ⟨hc, hr⟩ := h
      split at hc
      · rename_i a
        cases c with
        | str b =>
          simp only [cstB, decide_eq_true_eq] at hc
          subst hc
          obtain ⟨ts, hp, go⟩ := sndFs es sc ys hr fb X g
          refine ⟨_, .cons pe_str hp, fun σ σv H μ ρ acc Q s m q => ?_⟩
          simp only [wFs, wE, fmtOf] at q
          exact ⟨a, rfl, q.2.1, go σ σv H μ ρ _ Q s m q.2.2⟩
        | _ => cases hc
      · cases hc
    · cases h
theorem sndDs : ∀ (ds : Ds) (sc : Scope) (ks : List (Option Expr)) (vs : List Expr) (pos : Pos), chkDs C ds sc ks vs = true → ∀ (fb : Str → Bool) (X : Cx), Good C Φ sc fb X →
    ∃ trs, PPs X pos ks vs trs ∧ (∀ (σ : L2.St) (σv : Sg) (H : Hp) (μ : Mem) (ρ : List Addr) (R : List (V × V) → Hp → Prop), SgOk X.K ρ H σv σ → MemOk X.K ρ H μ → wDs Φ C.G ds σv μ (LKD X.K ρ H R) → tPairs trs σ H R) ∧ ks.all (·.isSome) = true ∧ ks.length = vs.length
  | .nil, sc, ks, vs, pos, h, fb, X, g => by
    cases ks with
    | cons k ks => simp [chkDs] at h
    | nil =>
      cases vs with
      | cons v vs => simp [chkDs] at h
      | nil => exact ⟨[], pps_nil, fun σ σv H μ ρ R s m q => q ρ H [] Grow.refl m .nil, rfl, rfl⟩
  | .cons k v ds, sc, ks, vs, pos, h, fb, X, g => by
    cases ks with
    | nil => simp [chkDs] at h
    | cons x ks =>
      cases x with
      | none => simp [chkDs] at h
      | some x =>
        cases vs with
        | nil => simp [chkDs] at h
        | cons y vs =>
          simp only [chkDs, Bool.and_eq_true] at h
          obtain ⟨⟨hk, hv⟩, hr⟩ := h
          obtain ⟨trs, hp, go, hall, hlen⟩ := sndDs ds sc ks vs pos hr fb X g
          refine ⟨_, pps_cons (sndE k sc x hk fb X g).pe (sndE v sc y hv fb X g).pe hp, fun σ σv H μ ρ R s m q => ?_, by rw [List.all_cons, hall]; rfl, by simp [hlen]⟩
          refine LE_mk (wE_le hΦ k σv μ) s m q fun a μ1 ρ1 H1 za q1 g1 m1 r1 s1 => ?_
          refine LE_mk (wE_le hΦ v σv μ1) s1 m1 q1 fun b μ2 ρ2 H2 zb q2 g2 m2 r2 s2 => ?_
          cases e : kOf a with
          | none => simp only [e] at q2
          | some kk =>
            simp only [e] at q2
            obtain rfl := key_V r1 e
            refine go σ σv H2 μ2 ρ2 _ s2 m2 (wDs_le hΦ ds σv μ2 _ _ (fun kvs μ3 q3 ρ3 H3 zs g3 m3 rel => ?_) q2)
            exact q3 ρ3 H3 ((kk, zb) :: zs) ((g1.trans g2).trans g3) m3 (.cons ⟨rfl, r2.grow g3⟩ rel)
theorem sndI : ∀ (it : Itb) (sc : Scope) (x t : Expr), chkI C it sc x t = true → ∀ (fb : Str → Bool) (X : Cx), Good C Φ sc fb X → PI X t x (LI X.K (NFz X) (wI Φ C.G it))
  | .sq e, sc, x, t, h, fb, X, g => by
    simp only [chkI, Bool.and_eq_true] at h
    refine PI.imp (pi_seq (sndE e sc x h.1 fb X g).pe) fun σ H R q => ?_
    obtain ⟨σv, μ, ρ, s, m, q⟩ := q
    refine LE_mk (wE_le hΦ e σv μ) s m q fun v μ1 ρ1 H1 y q1 g1 m1 r1 s1 => ?_
    cases e1 : seqOf μ1 v with
    | none => simp only [e1] at q1
    | some vs =>
      simp only [e1] at q1
      obtain ⟨a, rfl, src⟩ := src_of m1 e1 r1
      refine ⟨a, rfl, ?_⟩
      have now := src.now Grow.refl m1 (μ2 := μ1)
      cases v with
      | ref r =>
        have hg : gd μ1 (srcOf (.ref r) vs) := ⟨e1, trivial⟩
        obtain ⟨xs, q2, _⟩ := src.nowL rfl Grow.refl m1 hg
        exact .inl ⟨xs, q2, q1 ρ1 H1 _ g1 m1 (wk_list src rfl) nolk⟩
      | tup us =>
        obtain ⟨xs, q2, _⟩ := src.nowT rfl Grow.refl m1 (μ2 := μ1) trivial
        exact .inr ⟨xs, q2, q1 ρ1 H1 _ g1 m1 (wk_tup src rfl) nolk⟩
      | _ => simp [seqOf] at e1
  | .sgs e, sc, x, t, h, fb, X, g => by
    simp only [chkI, Bool.and_eq_true] at h
    refine PI.imp (pi_str (sndE e sc x h.1 fb X g).pe) fun σ H R q => ?_
    obtain ⟨σv, μ, ρ, s, m, q⟩ := q
    refine LE_mk (wE_le hΦ e σv μ) s m q fun v μ1 ρ1 H1 y q1 g1 m1 r1 s1 => ?_
    cases v with
    | str z =>
      cases r1.str_of
      exact ⟨z, rfl, q1 ρ1 H1 _ g1 m1 (wk_str z) nolk⟩
    | _ => exact False.elim q1
  | .dks e, sc, x, t, h, fb, X, g => by
    simp only [chkI, Bool.and_eq_true] at h
    refine PI.imp (pi_dks (sndE e sc x h.1 fb X g).pe) fun σ H R q => ?_
    obtain ⟨σv, μ, ρ, s, m, q⟩ := q
    refine LE_mk (wE_le hΦ e σv μ) s m q fun v μ1 ρ1 H1 y q1 g1 m1 r1 s1 => ?_
    cases v with
    | ref r =>
      obtain ⟨a, rfl, qa⟩ := r1.ref_of
      cases e1 : ndAt μ1 r with
      | none =>
        simp only [e1] at q1
        cases e2 : dctAt μ1 r with
        | none => simp only [e2] at q1
        | some kvs =>
          simp only [e2] at q1
          obtain ⟨ks, hd, rel⟩ := dct_of m1 e2 qa
          exact ⟨a, rfl, .inr ⟨ks, hd, fun o H2 h2 gr k nf => q1 ρ1 H2 _ (g1.trans (gr _ _)) (m1.frzK e2 qa rel h2 (gr _ _) k) (wk_dkK h2 (rel.grow (gr _ _))) (lock_ok m1 qa g1 nf)⟩⟩
      | some kvs =>
        simp only [e1] at q1
        obtain ⟨xs, N⟩ := nd_of m1 e1 qa
        refine ⟨a, rfl, .inl ⟨ρ1, kvs, xs, N, fun o H2 h2 gr k nf => ?_⟩⟩
        exact q1 ρ1 H2 _ (g1.trans gr) (m1.freeze e1 qa N h2 gr k) (wk_dk h2 (Paired.mapQ (fun p q z => ⟨z.1, ⟨z.2.1.1.grow gr, z.2.1.2⟩, z.2.2.grow gr⟩) N.rel0)) (lock_ok m1 qa g1 nf)
    | _ => exact False.elim q1
  | .dit e, sc, x, t, h, fb, X, g => by
    unfold chkI at h
    split at h
    · simp only [Bool.and_eq_true, decide_eq_true_eq] at h
      obtain ⟨⟨⟨⟨rfl, hb⟩, hl⟩, he⟩, h8⟩ := h
      cases t <;> first | (simp [isTup] at h8; done) | skip
      refine PI.imp (pi_dit (pe_dm0 PySem.F.slot_dict_items PySem.F.type_dict_items mt_itemsA (sndE e sc _ he fb X g).pe (attr_base hb) hl)) fun σ H R q => ?_
      obtain ⟨σv, μ, ρ, s, m, q⟩ := q
      refine LE_mk (wE_le hΦ e σv μ) s m q fun v μ1 ρ1 H1 y q1 g1 m1 r1 s1 => ?_
      cases v with
      | ref r =>
        obtain ⟨a, rfl, qa⟩ := r1.ref_of
        cases e1 : ndAt μ1 r with
        | none =>
          simp only [e1] at q1
          cases e2 : dctAt μ1 r with
          | none => simp only [e2] at q1
          | some kvs =>
            simp only [e2] at q1
            obtain ⟨ks, hd, rel⟩ := dct_of m1 e2 qa
            refine ⟨?_, .inr ⟨a, ks, rfl, rfl, hd, fun p hp => ?_⟩⟩
            · rcases hd with hd | ⟨o, hd⟩
              · exact .inl (.inr (.inr (.inl ⟨rfl, .inl ⟨ks, hd⟩⟩)))
              · exact .inr (.inr ⟨_, ks, o, rfl, hd⟩)
            have kk := upd_more (o := L2.DX.itemsO p a) hp
            have m2 := m1.more kk
            have g2 : Grow X.K ρ1 H1 ρ1 _ := Grow.more kk
            have rel2 := rel.grow g2
            refine ⟨p, a, rfl, upd_same, .inr ⟨ks, hd.imp (kk _ _) (fun ⟨o, e⟩ => ⟨o, kk _ _ e⟩), fun o H2 h2 gr k nf => ?_⟩⟩
            exact q1 ρ1 H2 _ ((g1.trans g2).trans (gr _ _)) (m2.frzK e2 qa rel2 h2 (gr _ _) k) (wk_diK h2 (rel2.grow (gr _ _))) (lock_ok m2 qa (g1.trans g2) nf)
        | some kvs =>
          simp only [e1] at q1
          obtain ⟨xs, N⟩ := nd_of m1 e1 qa
          refine ⟨N.ty, .inl ⟨a, ρ1, kvs, xs, rfl, rfl, N, fun p hp => ?_⟩⟩
          have N2 := N.more (upd_more (o := L2.DX.itemsO p a) hp)
          refine ⟨p, a, rfl, upd_same, .inl ⟨ρ1, kvs, xs, N2, fun o H2 h2 gr k nf => ?_⟩⟩
          have m2 := m1.more (upd_more (o := L2.DX.itemsO p a) hp)
          have g2 : Grow X.K ρ1 H1 ρ1 _ := Grow.more (upd_more (o := L2.DX.itemsO p a) hp)
          exact q1 ρ1 H2 _ ((g1.trans g2).trans gr) (m2.freeze e1 qa N2 h2 gr k) (wk_di h2 (Paired.mapQ (fun p q z => ⟨z.1, ⟨z.2.1.1.grow gr, z.2.1.2⟩, z.2.2.grow gr⟩) N2.rel0)) (lock_ok m2 qa (g1.trans g2) nf)
      | _ => exact False.elim q1
    · cases h
  | .zip3 a b c, sc, x, t, h, fb, X, g => by
    unfold chkI at h
    split at h
    · simp only [Bool.and_eq_true, decide_eq_true_eq] at h
      obtain ⟨⟨⟨⟨⟨⟨⟨⟨⟨rfl, h2⟩, h3⟩, h4⟩, h5⟩, h6⟩, h7⟩, h6'⟩, h7'⟩, h8⟩ := h
      cases t <;> first | (simp [isTup] at h8; done) | skip
      refine PI.imp (pi_zip3 (gl_of (by rw [g.scp]; exact h2)) (g.bl _ h3) (pa_cons (sndE a sc _ h5 fb X g).pe (pa_cons (sndE b sc _ h7 fb X g).pe (pa_cons (sndE c sc _ h7' fb X g).pe pa_nil (star_cons h6')) (star_cons h6)) (star_cons h4)) (star_cons h4) (star_any (by rw [List.all_cons, List.all_cons, h6, h6']; rfl))) fun σ H R q => ?_
      obtain ⟨σv, μ, ρ, s, m, q⟩ := q
      refine LE_mk (wE_le hΦ a σv μ) s m q fun v μ1 ρ1 H1 y q1 g1 m1 r1 s1 => ?_
      refine LE_mk (wE_le hΦ b σv μ1) s1 m1 q1 fun w μ2 ρ2 H2 z q2 g2 m2 r2 s2 => ?_
      refine LE_mk (wE_le hΦ c σv μ2) s2 m2 q2 fun u μ3 ρ3 H3 z3 q3 g3 m3 r3 s3 => ?_
      cases e1 : seqOf μ3 v with
      | none => simp only [e1] at q3
      | some vs =>
        cases e2 : seqOf μ3 w with
        | none => simp only [e1, e2] at q3
        | some ws =>
          cases e3 : seqOf μ3 u with
          | none => simp only [e1, e2, e3] at q3
          | some us =>
            simp only [e1, e2, e3] at q3
            obtain ⟨al, q3⟩ := q3
            obtain ⟨a1, rfl, src1⟩ := src_of m3 e1 ((r1.grow g2).grow g3)
            obtain ⟨a2, rfl, src2⟩ := src_of m3 e2 (r2.grow g3)
            obtain ⟨a3, rfl, src3⟩ := src_of m3 e3 r3
            have side : ∀ {v : Vl} {vs : List Vl} {aa : Addr}, isSq v = true → seqOf μ3 v = some vs → Src X.K ρ3 H3 vs aa v → ∃ uu : Bool, (∀ {ρ2 H2 μ2}, Grow X.K ρ3 H3 ρ2 H2 → MemOk X.K ρ2 H2 μ2 → gd μ2 (srcOf v vs) → ∃ xs, SqX uu X.K H2 aa xs ∧ Reps X.K ρ2 H2 vs xs) ∧ gd μ3 (srcOf v vs) := by
              intro v vs aa hv hs src
              cases v with
              | ref r => exact ⟨false, fun g m hg => src.nowL rfl g m hg, hs, trivial⟩
              | tup us => exact ⟨true, fun g m hg => src.nowT rfl g m hg, trivial⟩
              | _ => simp [isSq] at hv
            simp only [refs3, Bool.and_eq_true] at al
            obtain ⟨f1, n1, d1⟩ := side al.1.1 e1 src1
            obtain ⟨f2, n2, d2⟩ := side al.1.2 e2 src2
            obtain ⟨f3, n3, d3⟩ := side al.2 e3 src3
            obtain ⟨xs, q4, _⟩ := n1 Grow.refl m3 d1
            obtain ⟨ys, q5, _⟩ := n2 Grow.refl m3 d2
            obtain ⟨zs, q6, _⟩ := n3 Grow.refl m3 d3
            exact ⟨f1, f2, f3, a1, a2, a3, xs, ys, zs, rfl, q4, q5, q6, q3 ρ3 H3 _ ((g1.trans g2).trans g3) m3 (wk_zip3 n1 n2 n3) nolk⟩
    · cases h
  | .rng1 e, sc, x, t, h, fb, X, g => by
    unfold chkI at h
    split at h
    · simp only [Bool.and_eq_true, decide_eq_true_eq] at h
      obtain ⟨⟨⟨⟨rfl, h2⟩, h3⟩, h4⟩, h5⟩ := h
      refine PI.imp (pi_range1 (gl_of (by rw [g.scp]; exact h2)) (g.bl _ h3) (pa_cons (sndE e sc _ h5 fb X g).pe pa_nil (star_cons h4)) (star_cons h4)) fun σ H R q => ?_
      obtain ⟨σv, μ, ρ, s, m, q⟩ := q
      refine LE_mk (wE_le hΦ e σv μ) s m q fun v μ1 ρ1 H1 y q1 g1 m1 r1 s1 => ?_
      cases v with
      | int j =>
        cases r1
        refine ⟨j, rfl, q1.1.1, q1.1.2, q1.2 ρ1 H1 _ g1 m1 (wk_range 0 _ _ ?_) nolk⟩
        simp
      | _ => exact False.elim q1
    · cases h
  | .rng2 a b, sc, x, t, h, fb, X, g => by
    unfold chkI at h
    split at h
    · simp only [Bool.and_eq_true, decide_eq_true_eq] at h
      obtain ⟨⟨⟨⟨⟨⟨rfl, h2⟩, h3⟩, h4⟩, h5⟩, h6⟩, h7⟩ := h
      refine PI.imp (pi_rangeB (gl_of (by rw [g.scp]; exact h2)) (g.bl _ h3) (pa_cons (sndE a sc _ h5 fb X g).pe (pa_cons (sndE b sc _ h7 fb X g).pe pa_nil (star_cons h6)) (star_cons h4)) (by rw [star_cons h4, star_cons h6]; rfl) (star_cons h6)) fun σ H R q => ?_
      obtain ⟨σv, μ, ρ, s, m, q⟩ := q
      refine LE_mk (wE_le hΦ a σv μ) s m q fun v μ1 ρ1 H1 y q1 g1 m1 r1 s1 => ?_
      refine LE_mk (wE_le hΦ b σv μ1) s1 m1 q1 fun w μ2 ρ2 H2 z q2 g2 m2 r2 s2 => ?_
      cases v with
      | int i =>
        cases w with
        | int j =>
          cases r1; cases r2
          exact ⟨i, j, rfl, q2 ρ2 H2 _ (g1.trans g2) m2 (wk_range i _ _ rfl) nolk⟩
        | _ => exact False.elim q2
      | _ => exact False.elim q2
    · cases h
  | .zip a b, sc, x, t, h, fb, X, g => by
    unfold chkI at h
    split at h
    · simp only [Bool.and_eq_true, decide_eq_true_eq] at h
      obtain ⟨⟨⟨⟨⟨⟨⟨rfl, h2⟩, h3⟩, h4⟩, h5⟩, h6⟩, h7⟩, h8⟩ := h
      cases t <;> first | (simp [isTup] at h8; done) | skip
      refine PI.imp (pi_zipX (gl_of (by rw [g.scp]; exact h2)) (g.bl _ h3) (pa_cons (sndE a sc _ h5 fb X g).pe (pa_cons (sndE b sc _ h7 fb X g).pe pa_nil (star_cons h6)) (star_cons h4)) (star_cons h4) (star_any (by rw [List.all_cons, h6]; rfl))) fun σ H R q => ?_
      obtain ⟨σv, μ, ρ, s, m, q⟩ := q
      refine LE_mk (wE_le hΦ a σv μ) s m q fun v μ1 ρ1 H1 y q1 g1 m1 r1 s1 => ?_
      refine LE_mk (wE_le hΦ b σv μ1) s1 m1 q1 fun w μ2 ρ2 H2 z q2 g2 m2 r2 s2 => ?_
      cases e1 : seqOf μ2 v with
      | none => simp only [e1] at q2
      | some vs =>
        cases e2 : seqOf μ2 w with
        | none => simp only [e1, e2] at q2
        | some ws =>
          simp only [e1, e2] at q2
          obtain ⟨al, q2⟩ := q2
          obtain ⟨a1, rfl, src1⟩ := src_of m2 e1 (r1.grow g2)
          obtain ⟨a2, rfl, src2⟩ := src_of m2 e2 r2
          cases v with
          | ref r =>
            cases w with
            | ref rr =>
              have hg1 : gd μ2 (srcOf (.ref r) vs) := ⟨e1, trivial⟩
              have hg2 : gd μ2 (srcOf (.ref rr) ws) := ⟨e2, trivial⟩
              obtain ⟨xs, q3, _⟩ := src1.nowL rfl Grow.refl m2 hg1
              obtain ⟨ys, q4, _⟩ := src2.nowL rfl Grow.refl m2 hg2
              exact ⟨a1, a2, xs, ys, rfl, .inl ⟨q3, q4, q2 ρ2 H2 _ (g1.trans g2) m2 (wk_zip src1 src2 rfl rfl) nolk⟩⟩
            | tup us2 =>
              have hg1 : gd μ2 (srcOf (.ref r) vs) := ⟨e1, trivial⟩
              obtain ⟨xs, q3, _⟩ := src1.nowL rfl Grow.refl m2 hg1
              obtain ⟨ys, q4, _⟩ := src2.nowT rfl Grow.refl m2 (μ2 := μ2) trivial
              exact ⟨a1, a2, xs, ys, rfl, .inr (.inr (.inr ⟨q3, q4, q2 ρ2 H2 _ (g1.trans g2) m2 (wk_zipX (u1 := false) (u2 := true) src1 src2 (fun g m hg => src1.nowL rfl g m hg) fun g m hg => src2.nowT rfl g m hg) nolk⟩))⟩
            | _ => simp [alike] at al
          | tup us =>
            cases w with
            | tup us2 =>
              obtain ⟨xs, q3, _⟩ := src1.nowT rfl Grow.refl m2 (μ2 := μ2) trivial
              obtain ⟨ys, q4, _⟩ := src2.nowT rfl Grow.refl m2 (μ2 := μ2) trivial
              exact ⟨a1, a2, xs, ys, rfl, .inr (.inl ⟨q3, q4, q2 ρ2 H2 _ (g1.trans g2) m2 (wk_zipT src1 src2 rfl rfl) nolk⟩)⟩
            | ref rr =>
              have hg2 : gd μ2 (srcOf (.ref rr) ws) := ⟨e2, trivial⟩
              obtain ⟨xs, q3, _⟩ := src1.nowT rfl Grow.refl m2 (μ2 := μ2) trivial
              obtain ⟨ys, q4, _⟩ := src2.nowL rfl Grow.refl m2 hg2
              exact ⟨a1, a2, xs, ys, rfl, .inr (.inr (.inl ⟨q3, q4, q2 ρ2 H2 _ (g1.trans g2) m2 (wk_zipX (u1 := true) (u2 := false) src1 src2 (fun g m hg => src1.nowT rfl g m hg) fun g m hg => src2.nowL rfl g m hg) nolk⟩))⟩
            | _ => simp [alike] at al
          | _ => simp [seqOf] at e1
    · cases h
  | .enm a, sc, x, t, h, fb, X, g => by
    unfold chkI at h
    split at h
    · simp only [Bool.and_eq_true, decide_eq_true_eq] at h
      obtain ⟨⟨⟨⟨⟨rfl, h2⟩, h3⟩, h4⟩, h5⟩, h8⟩ := h
      cases t <;> first | (simp [isTup] at h8; done) | skip
      refine PI.imp (pi_enumA (gl_of (by rw [g.scp]; exact h2)) (g.bl _ h3) (pa_cons (sndE a sc _ h5 fb X g).pe pa_nil (star_cons h4)) (star_cons h4)) fun σ H R q => ?_
      obtain ⟨σv, μ, ρ, s, m, q⟩ := q
      refine LE_mk (wE_le hΦ a σv μ) s m q fun v μ1 ρ1 H1 y q1 g1 m1 r1 s1 => ?_
      cases e1 : seqOf μ1 v with
      | none => simp only [e1] at q1
      | some vs =>
        simp only [e1] at q1
        obtain ⟨a, rfl, src⟩ := src_of m1 e1 r1
        cases v with
        | ref r =>
          have hg : gd μ1 (srcOf (.ref r) vs) := ⟨e1, trivial⟩
          obtain ⟨xs, q2, _⟩ := src.nowL rfl Grow.refl m1 hg
          exact ⟨a, rfl, .inl ⟨xs, q2, q1 ρ1 H1 _ g1 m1 (wk_enum src rfl) nolk⟩⟩
        | tup us =>
          obtain ⟨xs, q2, _⟩ := src.nowT rfl Grow.refl m1 (μ2 := μ1) trivial
          exact ⟨a, rfl, .inr ⟨xs, q2, q1 ρ1 H1 _ g1 m1 (wk_enumT src rfl) nolk⟩⟩
        | _ => simp [seqOf] at e1
    · cases h
  | .rev a, sc, x, t, h, fb, X, g => by
    unfold chkI at h
    split at h
    · simp only [Bool.and_eq_true, decide_eq_true_eq] at h
      obtain ⟨⟨⟨⟨rfl, h2⟩, h3⟩, h4⟩, h5⟩ := h
      refine PI.imp (RT.pi_revA (gl_of (by rw [g.scp]; exact h2)) (g.bl _ h3) (sndE a sc _ h5 fb X g).pe (star_cons h4)) fun σ H R q => ?_
      obtain ⟨σv, μ, ρ, s, m, q⟩ := q
      refine LE_mk (wE_le hΦ a σv μ) s m q fun v μ1 ρ1 H1 y q1 g1 m1 r1 s1 => ?_
      cases e1 : seqOf μ1 v with
      | none => simp only [e1] at q1
      | some vs =>
        simp only [e1] at q1
        obtain ⟨a, rfl, src⟩ := src_of m1 e1 r1
        cases v with
        | ref r =>
          have hg : gd μ1 (srcOf (.ref r) vs) := ⟨e1, trivial⟩
          obtain ⟨xs, q2, r2⟩ := src.nowL rfl Grow.refl m1 hg
          refine ⟨a, xs, rfl, .inl ⟨q2, ?_⟩⟩
          rw [← r2.length]
          exact q1 ρ1 H1 _ g1 m1 (wk_rev src rfl) nolk
        | tup us =>
          obtain ⟨xs, q2, r2⟩ := src.nowT rfl Grow.refl m1 (μ2 := μ1) trivial
          refine ⟨a, xs, rfl, .inr ⟨q2, ?_⟩⟩
          rw [← r2.length]
          exact q1 ρ1 H1 _ g1 m1 (wk_revT src rfl) nolk
        | _ => simp [seqOf] at e1
    · cases h
theorem sndO : ∀ (e : Op) (sc : Scope) (x : Option Expr), chkO C e sc x = true → ∀ (fb : Str → Bool) (X : Cx), Good C Φ sc fb X → PO X x (LO X.K (wO Φ C.G e))
  | .no, sc, x, h, fb, X, g => by
    cases x with
    | some y => simp [chkO] at h
    | none =>
      refine PO.imp po_none fun σ H Q q => ?_
      obtain ⟨σv, μ, ρ, s, m, q⟩ := q
      exact q ρ H Grow.refl m
  | .yes e, sc, x, h, fb, X, g => by
    cases x with
    | none => simp [chkO] at h
    | some y =>
      refine PO.imp (po_some (sndE e sc y (by simpa [chkO] using h) fb X g).pe) fun σ H Q q => ?_
      obtain ⟨σv, μ, ρ, s, m, q⟩ := q
      refine LE_mk (wE_le hΦ e σv μ) s m q fun v μ1 ρ1 H1 y q1 g1 m1 r1 s1 => ?_
      cases v with
      | int i =>
        cases r1
        exact ⟨i, rfl, q1 ρ1 H1 g1 m1⟩
      | _ => exact False.elim q1
theorem sndEs : ∀ (es : Es) (sc : Scope) (xs : List Expr), chkEs C es sc xs = true → ∀ (fb : Str → Bool) (X : Cx), Good C Φ sc fb X → PA X xs (LA X.K (wEs Φ C.G es))
  | .nil, sc, xs, h, fb, X, g => by
    cases xs with
    | cons y ys => simp [chkEs] at h
    | nil =>
      refine PA.imp pa_nil fun σ H Q q => ?_
      obtain ⟨σv, μ, ρ, s, m, q⟩ := q
      exact q ρ H [] Grow.refl m .nil
  | .cons e es, sc, xs, h, fb, X, g => by
    cases xs with
    | nil => simp [chkEs] at h
    | cons y ys =>
      simp only [chkEs, Bool.and_eq_true] at h
      refine PA.imp (pa_cons (sndE e sc y h.1.2 fb X g).pe (sndEs es sc ys h.2 fb X g) (star_cons h.1.1)) fun σ H Q q => ?_
      obtain ⟨σv, μ, ρ, s, m, q⟩ := q
      refine LE_mk (wE_le hΦ e σv μ) s m q fun v μ1 ρ1 H1 y q1 g1 m1 r1 s1 => ?_
      refine LA_mk (wEs_le hΦ es σv μ1) s1 m1 q1 fun vs μ2 ρ2 H2 ys q2 g2 m2 r2 s2 => ?_
      exact q2 ρ2 H2 _ (g1.trans g2) m2 (.cons (r1.grow g2) r2)
theorem sndCs : ∀ (es : Es) (sc : Scope) (xs : List Expr) (ds : List Vl), chkCs C es sc xs ds = true → ∀ (fb : Str → Bool) (X : Cx), Good C Φ sc fb X → PA X xs (spArgs X.K xs.length ds (wEs Φ C.G es))
  | .nil, sc, xs, ds, h, fb, X, g => by
    cases xs with
    | cons y ys => simp [chkCs] at h
    | nil =>
      refine PA.imp pa_nil fun σ H Q q => ?_
      obtain ⟨σv, μ, ρ, s, m, us, e1, e2, q⟩ := q
      have e3 : us = [] := List.eq_nil_of_length_eq_zero e2
      subst e3
      exact q ρ H [] Grow.refl m .nil
  | .cons e es, sc, xs, ds, h, fb, X, g => by
    cases xs with
    | nil =>
      simp only [chkCs] at h
      refine PA.imp pa_nil fun σ H Q q => ?_
      obtain ⟨σv, μ, ρ, s, m, q⟩ := q
      obtain ⟨us, e1, e2, q⟩ := (dflB_run h).mp q
      have e3 : us = [] := List.eq_nil_of_length_eq_zero e2
      subst e3
      exact q ρ H [] Grow.refl m .nil
    | cons y ys =>
      simp only [chkCs, Bool.and_eq_true] at h
      refine PA.imp (pa_cons (sndE e sc y h.1.2 fb X g).pe (sndCs es sc ys ds h.2 fb X g) (star_cons h.1.1)) fun σ H Q q => ?_
      obtain ⟨σv, μ, ρ, s, m, q⟩ := q
      refine LE_mk (wE_le hΦ e σv μ) s m q fun v μ1 ρ1 H1 y q1 g1 m1 r1 s1 => ?_
      refine ⟨σv, μ1, ρ1, s1, m1, wEs_le hΦ es σv μ1 _ _ (fun vs μ2 q2 => ?_) q1⟩
      obtain ⟨us, e1, e2, q2⟩ := q2
      cases us with
      | nil => simp at e2
      | cons u us =>
        rw [List.cons_append, List.cons.injEq] at e1
        obtain ⟨rfl, rfl⟩ := e1
        exact ⟨us, rfl, by simpa using e2, fun ρ2 H2 zs g2 m2 r2 => q2 ρ2 H2 _ (g1.trans g2) m2 (.cons (r1.grow g2) r2)⟩
end
end
end PV

/-! statements run as the small language says -/
namespace PV
open PySem PySem.Spec PyProof.Rows L2

def LKS (K : PySem.W.Frag) (ρ : List Addr) (H : Hp) (R : L2.St → Hp → Prop) : Sg → Mem → Prop := fun σv μ => ∀ ρ2 H2 σ2, Grow K ρ H ρ2 H2 → MemOk K ρ2 H2 μ → SgOk K ρ2 H2 σv σ2 → R σ2 H2
def LEn (K : PySem.W.Frag) (ρ : List Addr) (H : Hp) (D : Ends) : En := ⟨LKS K ρ H D.nx, LK K ρ H D.rt, LKS K ρ H D.bk, LKS K ρ H D.ct⟩
def LS (K : PySem.W.Frag) (t : WB) : TS := fun D σ H => ∃ σv μ ρ, SgOk K ρ H σv σ ∧ MemOk K ρ H μ ∧ t (LEn K ρ H D) σv μ
theorem LKS.grow {K : PySem.W.Frag} {ρ ρ2 : List Addr} {H H2 : Hp} {R : L2.St → Hp → Prop} {σv : Sg} {μ : Mem} (g : Grow K ρ H ρ2 H2) (h : LKS K ρ H R σv μ) : LKS K ρ2 H2 R σv μ := fun ρ3 H3 σ3 g3 m3 s3 => h ρ3 H3 σ3 (g.trans g3) m3 s3
theorem LEn.grow {K : PySem.W.Frag} {ρ ρ2 : List Addr} {H H2 : Hp} {D : Ends} (g : Grow K ρ H ρ2 H2) : EnLe (LEn K ρ H D) (LEn K ρ2 H2 D) := ⟨fun _ _ h => LKS.grow g h, fun _ _ h => LK.grow g h, fun _ _ h => LKS.grow g h, fun _ _ h => LKS.grow g h⟩
theorem LKS.self {K : PySem.W.Frag} {ρ : List Addr} {H : Hp} {R : L2.St → Hp → Prop} {σv : Sg} {μ : Mem} {σ : L2.St} (h : LKS K ρ H R σv μ) (m : MemOk K ρ H μ) (s : SgOk K ρ H σv σ) : R σ H := h ρ H σ Grow.refl m s

section
variable {X : Cx}
theorem kind_block {env : Env} (h : env.scope.kind = .function) : env.blockKind = .function := by unfold Env.blockKind; rw [h]; rfl
theorem isLoc_of {sc : Scope} {n : Str} (h : isLoc sc n = true) : sc.names.lookup n = some .local := by
  unfold isLoc at h
  split at h
  · assumption
  · cases h
theorem not_loc {sc : Scope} {n : Str} (h : isLoc sc n = false) : sc.names.lookup n ≠ some .local := fun e => by
  unfold isLoc at h
  rw [e] at h
  cases h
theorem filterMap_lt {α β : Type} {f : α → Option β} : ∀ {l : List α}, (∃ x ∈ l, f x = none) → (l.filterMap f).length < l.length
  | [], h => by obtain ⟨x, hx, _⟩ := h; cases hx
  | a :: l, h => by
    obtain ⟨x, hx, e⟩ := h
    have le := List.length_filterMap_le f l
    rcases List.mem_cons.mp hx with rfl | hx
    · rw [List.filterMap_cons_none e, List.length_cons]
      omega
    · have := filterMap_lt (l := l) ⟨x, hx, e⟩
      cases q : f a with
      | none => rw [List.filterMap_cons_none q, List.length_cons]; omega
      | some b => rw [List.filterMap_cons_some q, List.length_cons, List.length_cons]; omega
theorem swap_none {sc : Scope} {ts : List Expr} {k : Nat} {p : Pos} {e : Expr} {env : Env} (hs : env.scope = sc) (h : noSwap sc (.Tuple ts k p) e = true) : swappedStores [.Tuple ts k p] e env = pure none := by
  subst hs
  cases e with
  | Tuple vs k2 p2 =>
    simp only [noSwap, Bool.and_eq_true, Bool.or_eq_true] at h
    obtain ⟨_, h⟩ := h
    unfold swappedStores
    simp only [bne_iff_ne, ne_eq]
    rcases h with h | h
    · split
      · rfl
      · split
        · rfl
        · split
          · rfl
          · first | rfl | (rw [if_pos h]; rfl)
    rw [List.any_eq_true] at h
    obtain ⟨x, hx, hn⟩ := h
    split
    · rfl
    · split
      · rfl
      · split
        · rfl
        · rename_i hne
          exfalso
          apply hne
          rw [Bool.or_eq_true]
          left
          refine bne_iff_ne.mpr (Nat.ne_of_lt (filterMap_lt ⟨x, hx, ?_⟩))
          cases x with
          | Name id pos =>
            have h1 : isLoc env.scope id = false := by simpa using hn
            have h2 : (env.kindOf id == some NameKind.local) = false := by
              have := not_loc h1
              simpa [Env.kindOf] using this
            simp [h2]
          | _ => rfl
  | _ => rfl
theorem swap_two {sc : Scope} {N : List Str} {i j : Nat} {x y : Str} {p q : Pos} {a b : Expr} {k k2 : Nat} {p1 p2 : Pos} {env : Env} (hs : env.scope = sc) (hk : sc.kind = .function) (h : parB N sc [i, j] [.Name x p, .Name y q] [a, b] = true) :
    swappedStores [.Tuple [.Name x p, .Name y q] k p1] (.Tuple [a, b] k2 p2) env = pure (some [x, y]) := by
  subst hs
  simp only [parB, lineB, Bool.and_eq_true, decide_eq_true_eq, Bool.not_eq_true', decide_eq_false_iff_not] at h
  obtain ⟨⟨⟨⟨⟨⟨⟨⟨⟨⟨h1, h2⟩, h3⟩, h4⟩, h5⟩, h6⟩, h7⟩, h8⟩, h9⟩, h10⟩, h11⟩ := h
  have kx : env.kindOf x = some .local := isLoc_of h3
  have ky : env.kindOf y = some .local := isLoc_of h4
  have hb := kind_block hk
  have e1 : (q.line == p.line) = true := by simpa using (show p.line = q.line by simpa using h5).symm
  have h6' : ¬ y = x := fun z => h6 z.symm
  have ed : [x, y].eraseDups.length = 2 := by
    simp [List.eraseDups_cons, h6']
  unfold swappedStores
  dsimp only
  rw [if_neg (by rw [hb]; simp)]
  refine (if_neg fun z => ?_).trans ?_
  · simp only [List.any_cons, List.any_nil, Bool.or_false, Bool.or_eq_true] at z
    rcases z with z | z
    · cases a <;> first | exact absurd z Bool.false_ne_true | exact absurd h7 Bool.false_ne_true
    · cases b <;> first | exact absurd z Bool.false_ne_true | exact absurd h8 Bool.false_ne_true
  simp only [Bool.false_eq_true, if_false, List.head?_cons, Option.map_some, Option.getD_some, Expr.pos, List.filterMap_cons, kx, ky, beq_self_eq_true, Bool.true_and, if_true, e1, List.filterMap_nil, ed, h9, h10, List.length_cons, List.length_nil]
  first | rfl | simp
theorem swap_three {sc : Scope} {N : List Str} {i j l : Nat} {x y z : Str} {p q r : Pos} {a b c : Expr} {k k2 : Nat} {p1 p2 : Pos} {env : Env} (hs : env.scope = sc) (hk : sc.kind = .function) (h : parB N sc [i, j, l] [.Name x p, .Name y q, .Name z r] [a, b, c] = true) :
    swappedStores [.Tuple [.Name x p, .Name y q, .Name z r] k p1] (.Tuple [a, b, c] k2 p2) env = pure (some [x, y, z]) := by
  subst hs
  simp only [parB, lineB, Bool.and_eq_true, decide_eq_true_eq, Bool.not_eq_true', decide_eq_false_iff_not] at h
  obtain ⟨⟨⟨⟨⟨⟨⟨⟨⟨⟨⟨⟨⟨⟨⟨⟨⟨⟨h1, h2⟩, h3⟩, lx⟩, ly⟩, lz⟩, e1⟩, e2⟩, nxy⟩, nxz⟩, nyz⟩, sa⟩, sb⟩, sc⟩, f1⟩, f2⟩, _⟩, _⟩, _⟩ := h
  have kx : env.kindOf x = some .local := isLoc_of lx
  have ky : env.kindOf y = some .local := isLoc_of ly
  have kz : env.kindOf z = some .local := isLoc_of lz
  have hb := kind_block hk
  have e1 : (q.line == p.line) = true := by simpa using (show p.line = q.line by simpa using e1).symm
  have e2 : (r.line == p.line) = true := by simpa using (show p.line = r.line by simpa using e2).symm
  have n1 : ¬ y = x := fun w => nxy w.symm
  have n2 : ¬ z = x := fun w => nxz w.symm
  have n3 : ¬ z = y := fun w => nyz w.symm
  have ed : [x, y, z].eraseDups.length = 3 := by
    simp [List.eraseDups_cons, n1, n2, n3]
  unfold swappedStores
  dsimp only
  rw [if_neg (by rw [hb]; simp)]
  refine (if_neg fun z => ?_).trans ?_
  · simp only [List.any_cons, List.any_nil, Bool.or_false, Bool.or_eq_true] at z
    rcases z with z | z | z
    · cases a <;> first | exact absurd z Bool.false_ne_true | exact absurd sa Bool.false_ne_true
    · cases b <;> first | exact absurd z Bool.false_ne_true | exact absurd sb Bool.false_ne_true
    · cases c <;> first | exact absurd z Bool.false_ne_true | exact absurd sc Bool.false_ne_true
  simp only [Bool.false_eq_true, if_false, List.head?_cons, Option.map_some, Option.getD_some, Expr.pos, List.filterMap_cons, kx, ky, kz, beq_self_eq_true, Bool.true_and, if_true, e1, e2, List.filterMap_nil, ed, f1, f2, List.length_cons, List.length_nil]
  first | rfl | simp
end

theorem thD_nx (lk : Option Nat) (D : En) {σ : Sg} {μ : Mem} : (thD lk D).nx σ μ ↔ D.nx σ (thaw lk μ) := by cases lk <;> exact Iff.rfl
theorem thD_rt (lk : Option Nat) (D : En) : (thD lk D).rt = D.rt := by cases lk <;> rfl
/-- behind a walk: what was locked is free again -/
theorem thaw_nx {X : Cx} {ρ ρ2 : List Addr} {H H2 : Hp} {μ2 : Mem} {σv2 : Sg} {σ2 : L2.St} {lk : Option Nat} {R : L2.St → Hp → Prop} (m : MemOk X.K ρ2 H2 μ2) (s : SgOk X.K ρ2 H2 σv2 σ2) (g : Grow X.K ρ H ρ2 H2)
    (hl : ∀ r, lk = some r → ∃ a, ρ2[r]? = some a ∧ NFz X a ∧ ∀ o u, H a ≠ some (.frz o u)) (h : LKS X.K ρ H R σv2 (thaw lk μ2)) : R σ2 H2 ∨ ∃ d od u, H2 d = some (.frz od u) ∧ NFz X d ∧ R σ2 (upd H2 d u) := by
  cases lk with
  | none => exact .inl (h ρ2 H2 σ2 g m s)
  | some r =>
    obtain ⟨a, ea, nf, nh⟩ := hl r rfl
    have key : ∀ (o : Obj) (u : HO) (ob ob2 : Ob), μ2[r]? = some ob → isOwn ob = true → isOwn ob2 = true → H2 a = some (.frz o u) → (∀ xs, u ≠ .tup xs) → (∀ K, (∀ b xs, SqT K H2 b xs → SqT K (upd H2 a u) b xs) → K = X.K → ObOk X.K ρ2 (upd H2 a u) ob2 a) →
        LKS X.K ρ H R σv2 (μ2.set r ob2) → ∃ d od u, H2 d = some (.frz od u) ∧ NFz X d ∧ R σ2 (upd H2 d u) := fun o u ob ob2 e o1 o2 hb ht new h => by
      have gT : ∀ (b : Addr) (ys : List V), SqT X.K H2 b ys → SqT X.K (upd H2 a u) b ys := fun b ys q => by
        have ne : ∀ w, H2 b = some w → (∀ o', w ≠ .frz o' u) → b ≠ a := fun w e1 e2 z => by
          subst z
          rw [hb] at e1
          cases e1
          exact e2 _ rfl
        rcases q with (q | ⟨ob, q⟩) | q
        · exact .inl (.inl (by rw [upd_ne (ne _ q fun _ z => by cases z)]; exact q))
        · exact .inl (.inr ⟨ob, by rw [upd_ne (ne _ q fun _ z => by cases z; exact ht _ rfl)]; exact q⟩)
        · exact .inr q
      have m3 := m.turn e o1 o2 ea (new X.K gT rfl) gT fun b hb => upd_ne hb
      have g3 : Grow X.K ρ H ρ2 (upd H2 a u) := ⟨g.pre, fun b ys q => gT b ys (g.tups b ys q), fun b o' w z => by
        rw [upd_ne (fun y => by subst y; exact nh _ _ z)]
        exact g.frz _ _ _ z⟩
      exact ⟨a, o, u, hb, nf, h ρ2 _ σ2 g3 m3 ⟨s.len, fun i v e => let ⟨x, e1, r⟩ := s.at' i v e; ⟨x, e1, r.tups gT⟩⟩⟩
    unfold thaw at h
    simp only at h
    split at h
    · rename_i kvs e
      obtain ⟨b, eb, o, xs, hb, rel⟩ := m.at' r _ e
      rw [ea] at eb; cases eb
      exact .inr (key o _ _ (.ndc kvs) e rfl rfl hb (fun _ z => by cases z) (fun K gT eK => by subst eK; exact ⟨xs, upd_same, Paired.mapQ (fun p q z => ⟨z.1, ⟨z.2.1.1.tups gT, z.2.1.2⟩, z.2.2.tups gT⟩) rel⟩) h)
    · rename_i kvs e
      obtain ⟨b, eb, o, ks, hb, rel⟩ := m.at' r _ e
      rw [ea] at eb; cases eb
      exact .inr (key o _ _ (.dct kvs) e rfl rfl hb (fun _ z => by cases z) (fun K gT eK => by subst eK; exact ⟨ks, upd_same, Paired.mapQ (fun p q z => ⟨z.1, z.2.tups gT⟩) rel⟩) h)
    · exact .inl (h ρ2 H2 σ2 g m s)
section
variable {C : Cfg} {Φ : FnT} (hΦ : FLe Φ Φ)
include hΦ
/-- the parts of a comprehension -/
theorem lc_parts {own : List (Str × Nat)} {elt c : IE} {tg : Tg} {it : Itb} {sc : Scope} {e t i : Expr} {ifs : List Expr} {as : Int} {scope : Scope} {p : Pos} {fb : Str → Bool} {X : Cx} (g : Good C Φ sc fb X)
    (h : chkE C (.lc own elt tg it c) sc (.ListComp e [⟨t, i, ifs, as⟩] scope p) = true) :
    as = 0 ∧ PI X t i (LI X.K (NFz X) (wI Φ C.G it)) ∧ BlkOk X.N X.env.scope scope own ∧
    (∀ (s : Shared) (H : Hp) (Cc : Addr) (cl : List (Str × Addr)) (fp : List Addr), PG (X.blk s H scope (compEnvC scope cl Cc X.env) fp) t (LG X.K (some (own.map fun p : Str × Nat => p.2)) (asgW tg))) ∧
    (∀ (s : Shared) (H : Hp) (Cc : Addr) (cl : List (Str × Addr)) (fp : List Addr), PTs (X.blk s H scope (compEnvC scope cl Cc X.env) fp) ifs (LT X.K (wE Φ C.G c))) ∧
    (∀ (s : Shared) (H : Hp) (Cc : Addr) (cl : List (Str × Addr)) (fp : List Addr), PE (X.blk s H scope (compEnvC scope cl Cc X.env) fp) e (LE X.K (wE Φ C.G elt))) ∧ (∀ x, foldedSetIterable i X.env x = pure x) := by
  simp only [chkE, Bool.and_eq_true, decide_eq_true_eq] at h
  obtain ⟨⟨⟨⟨⟨⟨e0, hi⟩, hb⟩, ht⟩, hin⟩, he⟩, hc⟩ := h
  have ok : BlkOk X.N X.env.scope scope own := by
    rw [g.N, g.scp]
    exact blkOk_by hb
  have gb := fun s H Cc cl fp => g.blk ok s H Cc cl fp
  refine ⟨e0, sndI hΦ it sc i t hi fb X g, ok, fun s H Cc cl fp => ?_, fun s H Cc cl fp => ?_, fun s H Cc cl fp => (sndE hΦ elt (relS scope sc) e he (compFb scope) _ (gb s H Cc cl fp)).pe, no_fold ?_⟩
  · exact sndG (X := X.blk s H scope (compEnvC scope cl Cc X.env) fp) (some (own.map fun p : Str × Nat => p.2)) _ g.calm g.nd (fun n hn => loc_of (X := X.blk s H scope (compEnvC scope cl Cc X.env) fp) (fb := compFb scope) (fun x h => h) (by rw [(gb s H Cc cl fp).scp]; exact hn)) tg t (by rw [← g.N] at ht; exact ht)
      (show inOwn (some (own.map fun p : Str × Nat => p.2)) tg from hin)
  · cases ifs with
    | nil =>
      cases c with
      | nop =>
        refine ⟨fun pins s2 σ2 H2 Q2 I2 q2 => pts_nil.run pins s2 σ2 H2 Q2 I2 ?_⟩
        obtain ⟨σv, μ, ρ, s, m, q⟩ := q2
        exact q ρ H2 Grow.refl m
      | _ => cases hc
    | cons q qs =>
      cases qs with
      | nil =>
        simp only [Bool.and_eq_true] at hc
        exact pts_one ((sndE hΦ c (relS scope sc) _ hc.1 (compFb scope) _ (gb s H Cc cl fp)).pt hc.2)
      | cons q2 qs => cases hc
  · cases it <;> simp only [chkI, Bool.and_eq_true] at hi <;> first
      | exact hi.2
      | (cases hi; done)
      | (split at hi
         · rfl
         · cases hi)
omit hΦ in
theorem swap_cell {e : Expr} {gs : List Comprehension} {scope : Scope} {p q : Pos} {n : Str} {l : Nat} {env : Env} (h : isLoc env.scope n = false) : swapsWith (.ListComp e gs scope p) (some (.Name n q)) l env = pure false := by
  have h2 : (env.kindOf n == some NameKind.local) = false := by
    have := not_loc h
    simpa [Env.kindOf] using this
  unfold swapsWith
  simp only [h2, Bool.and_false, Bool.false_and]
omit hΦ in
theorem no_swapTup {e : Expr} {es : List Expr} {k : Nat} {p : Pos} {l : Nat} {env : Env} : swapsWithSole [.Tuple es k p] e l env = pure false := by cases e <;> rfl
omit hΦ in
theorem no_swapSub {e a b : Expr} {p : Pos} {l : Nat} {env : Env} : swapsWithSole [.Subscript a b p] e l env = pure false := by cases e <;> rfl
omit hΦ in
theorem no_swapS {e t : Expr} {l : Nat} {env : Env} (h : isLc e = false) : swapsWithSole [t] e l env = pure false := no_swap h
omit hΦ in
theorem sub_assign {o i : Expr} {pos : Pos} {env : Env} (h : notSlice i = true) : ∀ v, assign (.Subscript o i pos) env v = (do
      let ov ← holding [v] (eval o env)
      let iv ← holding [v, ov] (eval i env)
      standAt pos
      holding [v, ov, iv] (setItem ov iv v)
      release [v, ov, iv] []) := by
  intro v
  cases i <;> first | rfl | cases h
omit hΦ in
theorem x1A_lc {B : List Str} {T : List (Str × List (Str × Int))} {me : Option Str} {f : X1} {sc : Scope} {el : Expr} {gs : List Comprehension} {scope : Scope} {p : Pos} : x1A B T me f sc (.ListComp el gs scope p) = none := by cases f <;> rfl
omit hΦ in
theorem sub_aug {i : Expr} (h : notSlice i = true) : ∀ ov iv new, augStore i ov iv new = (do holding [new, ov, iv] (setItem ov iv new); release [new, ov, iv] []; pure .next) := by
  intro ov iv new
  cases i <;> first | rfl | cases h
def LSt (K : PySem.W.Frag) : V → V → V → Hp → (Hp → Prop) → Prop := fun o i v H Q => ∃ a b c μ ρ, MemOk K ρ H μ ∧ Rep K ρ H a o ∧ Rep K ρ H b i ∧ Rep K ρ H c v ∧ stoW μ a b c fun μ2 => ∀ ρ2 H2, Grow K ρ H ρ2 H2 → MemOk K ρ2 H2 μ2 → Q H2
omit hΦ in
theorem sto_dct {X : Cx} (hu : X.A.units + 65 < cLine) {pins : List (Addr × Obj)} {s : Shared} {σ : L2.St} {H : Hp} {o i v : V} {ov iv u : Value} {Q : Hp → Prop} (I : L2.Inv X pins σ H s) (ro : RelV o ov) (ri : RelV i iv) (rv : RelV v u) {a b c : Vl} {r : Nat} {μ : Mem} {ρ : List Addr}
    (m : MemOk X.K ρ H μ) (ea : a = .ref r) (ra : Rep X.K ρ H a o) (rb : Rep X.K ρ H b i) (rc : Rep X.K ρ H c v) (h : dstW μ r b c fun μ2 => ∀ ρ2 H2, Grow X.K ρ H ρ2 H2 → MemOk X.K ρ2 H2 μ2 → Q H2) :
    wpAny (model X.prog X.w) X.A (setItem ov iv u) (fun _ s' => ∃ H', L2.Inv X pins σ H' s' ∧ Q H') X.xe s := by
  subst ea
  obtain ⟨r2, p, kvs, ks, k, e0, e1, e2, rfl, rfl, hp, rel, hmu, hz, h⟩ := dk_of m ra rb h
  cases e0
  have e1' : dctMut μ r = some kvs := by
    obtain ⟨kv2, e⟩ := Option.isSome_iff_exists.mp hmu
    rw [e]
    exact (dctm_dct e).symm.trans e1
  obtain ⟨ks', hp', rel'⟩ := dctm_of m e1' e2
  have ek : ks' = ks := by
    rcases hp with hp | ⟨o, hp⟩
    · rw [hp'] at hp; cases hp; rfl
    · rw [hp'] at hp; cases hp
  subst ek
  have hp := hp'
  obtain ⟨g7, m7⟩ := dct_write m e1' e2 (rel.put k rc)
  exact set_dict (by omega) pins s σ H _ _ v ov iv u Q I ro ri rv ⟨p, _, rfl, DPut.k hp (by rw [← rel.length]; exact hz), h ρ _ g7 m7⟩
omit hΦ in
theorem sto_ndc {X : Cx} (hu : X.A.units + 65 < cLine) {pins : List (Addr × Obj)} {s : Shared} {σ : L2.St} {H : Hp} {o i v : V} {ov iv u : Value} {Q : Hp → Prop} (I : L2.Inv X pins σ H s) (ro : RelV o ov) (ri : RelV i iv) (rv : RelV v u) {b c : Vl} {r : Nat} {μ : Mem} {ρ : List Addr}
    (m : MemOk X.K ρ H μ) (ra : Rep X.K ρ H (.ref r) o) (rb : Rep X.K ρ H b i) (rc : Rep X.K ρ H c v) (h : dsnW μ r b c fun μ2 => ∀ ρ2 H2, Grow X.K ρ H ρ2 H2 → MemOk X.K ρ2 H2 μ2 → Q H2) :
    wpAny (model X.prog X.w) X.A (setItem ov iv u) (fun _ s' => ∃ H', L2.Inv X pins σ H' s' ∧ Q H') X.xe s := by
  unfold dsnW at h
  split at h
  case h_2 => exact False.elim h
  rename_i kvs e1
  split at h
  case h_2 => exact False.elim h
  rename_i k e3
  obtain ⟨hz, h⟩ := h
  obtain ⟨p, rfl, e2⟩ := ra.ref_of
  obtain ⟨xs, N⟩ := nm_of m e1 e2
  obtain ⟨h1, _, _, nk⟩ := nkOf_ok e3
  have rk := rb
  rw [← h1] at rk
  have hd : ∃ d, i = .ref d := by
    cases b with
    | tup vs =>
      obtain ⟨d, ys, e, _⟩ := rb.tup_of
      exact ⟨d, e⟩
    | _ => cases e3
  obtain ⟨d, rfl⟩ := hd
  obtain rfl : ov = Value.ref p := ro
  obtain rfl : iv = Value.ref d := ri
  have g : Grow X.K ρ H ρ (upd H p (.ext (NdAt p (putX xs k d v)))) := grow_upd (.inr N.mut)
  have new : ObOk X.K ρ (upd H p (.ext (NdAt p (putX xs k d v)))) (.ndc (dput kvs k c)) p := ⟨_, upd_same, Paired.mapQ (fun p q z => ⟨z.1, ⟨z.2.1.1.grow g, z.2.1.2⟩, z.2.2.grow g⟩) (N.x.rel.put rk nk rc)⟩
  refine nd_setItem hu I N nk rk rv hz fun s2 I2 => ⟨_, I2, h ρ _ g ?_⟩
  rcases nm_at e1 with e | ⟨e, _⟩
  · exact m.write e e2 rfl new rfl
  · exact m.write e e2 rfl new rfl
omit hΦ in
theorem opSto {X : Cx} (hu : X.A.units + 65 < cLine) : PSet X (LSt X.K) := by
  intro pins s σ H o i v ov iv u Q I ro ri rv h
  obtain ⟨a, b, c, μ, ρ, m, ra, rb, rc, h⟩ := h
  unfold stoW at h
  split at h
  · rename_i r
    split at h
    · rename_i k
      split at h
      · rename_i vs e1
        split at h
        · rename_i j e2
          obtain ⟨p, rfl, q⟩ := ra.ref_of
          cases rb.int_of
          obtain ⟨xs, q2, rs⟩ := mut_of m e1 q
          refine set_list pins s σ H _ _ v ov iv u Q I ro ri rv ⟨p, xs, k, j, rfl, rfl, q2, by rw [← rs.length]; exact e2, ?_⟩
          have mu : Mut (H p) := by rw [q2]; trivial
          have e7 : μ[r]? = some (.lst vs) := by
            unfold mutAt at e1
            split at e1
            · rename_i e8; cases e1; exact e8
            · cases e1
          have g7 : Grow X.K ρ H ρ (upd H p (.lst (xs.set j v))) := grow_upd (.inr mu)
          exact h ρ _ g7 (m.write (ob2 := .lst (vs.set j c)) e7 q rfl ⟨xs.set j v, upd_same, (Reps.set rc j rs).grow g7⟩ rfl)
        · exact False.elim h
      · exact sto_dct hu I ro ri rv m rfl ra rb rc h
    · exact sto_dct hu I ro ri rv m rfl ra rb rc h
    · exact sto_ndc hu I ro ri rv m ra rb rc h
    · exact False.elim h
  · exact False.elim h
omit hΦ in
theorem lsto_grow {K : PySem.W.Frag} {ρ ρ2 : List Addr} {H H2 : Hp} {Q : Hp → Prop} (g : Grow K ρ H ρ2 H2) (μ : Mem) (h : ∀ ρ3 H3, Grow K ρ H ρ3 H3 → MemOk K ρ3 H3 μ → Q H3) : ∀ ρ3 H3, Grow K ρ2 H2 ρ3 H3 → MemOk K ρ3 H3 μ → Q H3 := fun ρ3 H3 g3 m3 => h ρ3 H3 (g.trans g3) m3

mutual
theorem sndS : ∀ (st : IS) (sc : Scope) (x : Stmt), chkS C st sc x = true → ∀ (X : Cx), Good C Φ sc (fun _ => true) X → PS X x (LS X.K (wS Φ C.G st))
  | .asg i e, sc, x, h, X, g => by
    unfold chkS at h
    split at h
    · rename_i n p v sp
      simp only [Bool.and_eq_true, decide_eq_true_eq] at h
      obtain ⟨⟨⟨hn, hl⟩, he⟩, hv⟩ := h
      have hN : X.N[i]? = some n := by rw [g.N]; exact hn
      obtain ⟨l1, l2⟩ := loc_of (X := X) g.fb (by rw [g.scp]; exact hl)
      have read : ∀ D σ H, LS X.K (wS Φ C.G (.asg i e)) D σ H → tAsg (LE X.K (wE Φ C.G e)) (gName i) D σ H := fun D σ H q => by
        obtain ⟨σv, μ, ρ, s, m, q⟩ := q
        refine LE_mk (wE_le hΦ e σv μ) s m q fun v μ1 ρ1 H1 y q1 g1 m1 r1 s1 => ?_
        exact q1 ρ1 H1 _ g1 m1 (s1.set r1)
      by_cases lc : ∃ el gen scope q, v = .ListComp el [gen] scope q
      · obtain ⟨el, gen, scope, q, rfl⟩ := lc
        simp only at hv
        by_cases hloc : isLoc sc n = true
        · rw [if_pos hloc, Bool.and_eq_true] at hv
          obtain ⟨t, it2, ifs, as⟩ := gen
          have hyl : X.env.scope.names.lookup n = some .local := by rw [g.scp]; exact isLoc_of hloc
          have hline : (p.line == q.line) = true := hv.1
          have hany : (scope.names.any fun (m, k) => m == n && (k == .local || k == .cell)) = false := by simpa using hv.2
          cases e with
          | lc own elt tg it c =>
            obtain ⟨e0, a1, a2, a3, a4, a5, a6⟩ := lc_parts hΦ g he
            subst e0
            refine PS.imp (ps_setLc (g := LG X.K (some (own.map (·.2))) (asgW tg)) (tt := LT X.K (wE Φ C.G c)) (te := LE X.K (wE Φ C.G elt)) g.calm g.nd hN hyl (sw_true (by rw [g.scp]; exact g.kind) hyl hline hany) a1 a2 a3 a4 a5 a6) fun D σ H qq => ?_
            have := read D σ H qq
            exact lc_read (wI_le hΦ it) (asgW_mono tg) (wE_le hΦ c) (wE_le hΦ elt) this
          | x1 f a => simp [chkE, x1A_lc] at he
          | _ => simp [chkE] at he
        · have hloc : isLoc sc n = false := by simpa using hloc
          exact PS.imp (ps_set g.nd hN l1 (sndE hΦ e sc _ he _ X g).pe (swap_cell (by rw [g.scp]; exact hloc)) l2) read
      · have hv2 : isLc v = false := by
          split at hv
          · exact absurd ⟨_, _, _, _, rfl⟩ lc
          · simpa using hv
        exact PS.imp (ps_set g.nd hN l1 (sndE hΦ e sc _ he _ X g).pe (no_swap hv2) l2) read
    · cases h
  | .asgT ts e, sc, x, h, X, g => by
    unfold chkS at h
    split at h
    · rename_i es k p v sp
      simp only [Bool.and_eq_true] at h
      obtain ⟨⟨ht, he⟩, hs⟩ := h
      have hloc : ∀ n, locB sc (fun _ => true) n = true → Loc X.env.scope n ∧ (X.fn n = true ∨ X.env.scope.names.lookup n = some .local) := fun n hn => loc_of (X := X) g.fb (by rw [g.scp]; exact hn)
      have ht2 : chkTgs X.N (locB sc (fun _ => true)) ts es = true := by rw [g.N]; exact ht
      have pg : PG X (.Tuple es k p) (LGU X.K ts) := pg_both g.calm (sndG none _ g.calm g.nd hloc (.tp ts) _ ht2 trivial) (sndGs none _ g.calm g.nd hloc ts es ht2 trivial) ht2
      refine PS.imp (ps_asg (sndE hΦ e sc _ he _ X g).pe pg no_swapTup (swap_none g.scp hs) rfl) fun D σ H q => ?_
      obtain ⟨σv, μ, ρ, s, m, q⟩ := q
      refine LE_mk (wE_le hΦ e σv μ) s m q fun v μ1 ρ1 H1 y q1 g1 m1 r1 s1 => ?_
      exact ⟨v, σv, μ1, ρ1, s1, m1, r1, unpW_mono (fun σv2 q2 σ2 s2 => q2 ρ1 H1 σ2 g1 m1 s2) q1⟩
    · cases h
  | .par is es, sc, x, h, X, g => by
    unfold chkS at h
    split at h
    · rename_i ts k p vs k2 p2 sp
      rw [Bool.and_eq_true] at h
      obtain ⟨hp, he⟩ := h
      have hp0 := hp
      have pa := sndEs hΦ es sc vs he _ X g
      unfold parB at hp
      split at hp
      · rename_i i j x1 q1 x2 q2 a b
        have sw := swap_two (k := k) (k2 := k2) (p1 := p) (p2 := p2) g.scp g.kind hp0
        simp only [Bool.and_eq_true, decide_eq_true_eq, Bool.not_eq_true', decide_eq_false_iff_not] at hp
        obtain ⟨⟨⟨⟨⟨⟨⟨⟨⟨⟨h1, h2⟩, h3⟩, h4⟩, h5⟩, h6⟩, h7⟩, h8⟩, h9⟩, h10⟩, h11⟩ := hp
        refine PS.imp (ps_par g.calm g.nd (by rw [g.N]; exact h1) (by rw [g.N]; exact h2) h11 (by rw [g.scp]; exact isLoc_of h3) (by rw [g.scp]; exact isLoc_of h4) pa sw (no_swapS rfl)) fun D σ H q => ?_
        obtain ⟨σv, μ, ρ, s, m, q⟩ := q
        refine LA_mk (wEs_le hΦ es σv μ) s m q fun vs μ1 ρ1 H1 xs q1 g1 m1 r1 s1 => ?_
        obtain ⟨hl, q1⟩ := q1
        cases vs with
        | nil => simp at hl
        | cons v vs =>
          cases vs with
          | nil => simp at hl
          | cons w vs =>
            cases vs with
            | nil =>
              obtain ⟨y, z, rfl, ry, rz⟩ := r1.two
              exact ⟨y, z, rfl, q1 ρ1 H1 _ g1 m1 ((s1.set ry).set rz)⟩
            | cons _ _ => simp at hl
      · rename_i i j l x1 q1 x2 q2 x3 q3 a b c
        have sw := swap_three (k := k) (k2 := k2) (p1 := p) (p2 := p2) g.scp g.kind hp0
        simp only [Bool.and_eq_true, decide_eq_true_eq, Bool.not_eq_true', decide_eq_false_iff_not] at hp
        obtain ⟨⟨⟨⟨⟨⟨⟨⟨⟨⟨⟨⟨⟨⟨⟨⟨⟨⟨h1, h2⟩, h3⟩, lx⟩, ly⟩, lz⟩, e1⟩, e2⟩, nxy⟩, nxz⟩, nyz⟩, sa⟩, sb⟩, scc⟩, f1⟩, f2⟩, n1⟩, n2⟩, n3⟩ := hp
        refine PS.imp (ps_par3 g.calm g.nd (by rw [g.N]; exact h1) (by rw [g.N]; exact h2) (by rw [g.N]; exact h3) n1 n2 n3 (by rw [g.scp]; exact isLoc_of lx) (by rw [g.scp]; exact isLoc_of ly) (by rw [g.scp]; exact isLoc_of lz) pa sw (no_swapS rfl)) fun D σ H q => ?_
        obtain ⟨σv, μ, ρ, s, m, q⟩ := q
        refine LA_mk (wEs_le hΦ es σv μ) s m q fun vs μ1 ρ1 H1 xs q1 g1 m1 r1 s1 => ?_
        obtain ⟨hl, q1⟩ := q1
        cases vs with
        | nil => simp at hl
        | cons v vs =>
          cases vs with
          | nil => simp at hl
          | cons w vs =>
            cases vs with
            | nil => simp at hl
            | cons u vs =>
              cases vs with
              | nil =>
                cases r1 with
                | cons rx r1 =>
                  obtain ⟨y, z, rfl, ry, rz⟩ := r1.two
                  exact ⟨_, y, z, rfl, q1 ρ1 H1 _ g1 m1 (((s1.set rx).set ry).set rz)⟩
              | cons _ _ => simp at hl
      · cases hp
    · cases h
  | .aug i op e, sc, x, h, X, g => by
    unfold chkS at h
    split at h
    · rename_i n np o v sp
      simp only [Bool.and_eq_true, decide_eq_true_eq, Bool.or_eq_true] at h
      obtain ⟨⟨⟨⟨⟨hn, hl⟩, e0⟩, he⟩, _⟩, hop⟩ := h
      subst e0
      have hN : X.N[i]? = some n := by rw [g.N]; exact hn
      obtain ⟨l1, l2⟩ := loc_of (X := X) g.fb (by rw [g.scp]; exact hl)
      rcases hop with rfl | rfl
      · refine PS.imp (ps_aug g.nd hN l1 (sndE hΦ e sc _ he _ X g).pe ip_add l2) fun D σ H q => ?_
        obtain ⟨σv, μ, ρ, s, m, q⟩ := q
        simp only [wS] at q
        split at q
        · rename_i v e1
          obtain ⟨y, e2, ry⟩ := s.at' _ _ e1
          refine ⟨y, e2, LE_mk (wE_le hΦ e σv μ) s m q fun w μ1 ρ1 H1 z q1 g1 m1 r1 s1 => ?_⟩
          cases v with
          | int a =>
            cases w with
            | int b =>
              cases ry; cases r1
              exact ⟨a, b, rfl, rfl, q1 ρ1 H1 _ g1 m1 (s1.set (.int _))⟩
            | _ => exact False.elim q1
          | _ => exact False.elim q1
        · exact False.elim q
      · refine PS.imp (ps_aug g.nd hN l1 (sndE hΦ e sc _ he _ X g).pe ip_sub l2) fun D σ H q => ?_
        obtain ⟨σv, μ, ρ, s, m, q⟩ := q
        simp only [wS] at q
        split at q
        · rename_i v e1
          obtain ⟨y, e2, ry⟩ := s.at' _ _ e1
          refine ⟨y, e2, LE_mk (wE_le hΦ e σv μ) s m q fun w μ1 ρ1 H1 z q1 g1 m1 r1 s1 => ?_⟩
          cases v with
          | int a =>
            cases w with
            | int b =>
              cases ry; cases r1
              exact ⟨a, b, rfl, rfl, q1 ρ1 H1 _ g1 m1 (s1.set (.int _))⟩
            | _ => exact False.elim q1
          | _ => exact False.elim q1
        · exact False.elim q
    · cases h
  | .sto o i e, sc, x, h, X, g => by
    unfold chkS at h
    split at h
    · rename_i a b p v sp
      simp only [Bool.and_eq_true, Bool.not_eq_true'] at h
      obtain ⟨⟨⟨ho, hi⟩, hs⟩, he⟩ := h
      refine PS.imp (ps_asg (sndE hΦ e sc _ he _ X g).pe (pg_sub (sndE hΦ o sc _ ho _ X g).pe (sndE hΦ i sc _ hi _ X g).pe (opSto g.hu) (sub_assign hs)) no_swapSub rfl rfl) fun D σ H q => ?_
      obtain ⟨σv, μ, ρ, s, m, q⟩ := q
      refine LE_mk (wE_le hΦ e σv μ) s m q fun v μ1 ρ1 H1 x1 q1 g1 m1 r1 s1 => ?_
      refine LE_mk (wE_le hΦ o σv μ1) s1 m1 q1 fun w μ2 ρ2 H2 x2 q2 g2 m2 r2 s2 => ?_
      refine LE_mk (wE_le hΦ i σv μ2) s2 m2 q2 fun u μ3 ρ3 H3 x3 q3 g3 m3 r3 s3 => ?_
      refine ⟨w, u, v, μ3, ρ3, m3, r2.grow g3, r3, (r1.grow g2).grow g3, stoW_mono (fun μ4 q4 ρ4 H4 g4 m4 => ?_) q3⟩
      exact q4 ρ4 H4 _ (((g1.trans g2).trans g3).trans g4) m4 (s3.grow g4)
    · cases h
  | .augS o i op e, sc, x, h, X, g => by
    unfold chkS at h
    split at h
    · rename_i a b p oo v sp
      simp only [Bool.and_eq_true, decide_eq_true_eq] at h
      obtain ⟨⟨⟨⟨⟨ho, hi⟩, hs⟩, e0⟩, he⟩, hop⟩ := h
      subst e0
      refine PS.imp (ps_augS (sndE hΦ o sc _ ho _ X g).pe (sndE hΦ i sc _ hi _ X g).pe (opGet g.hu) (sndE hΦ e sc _ he _ X g).pe (opAug hop) (opSto g.hu) (sub_aug hs)) fun D σ H q => ?_
      obtain ⟨σv, μ, ρ, s, m, q⟩ := q
      refine LE_mk (wE_le hΦ o σv μ) s m q fun v μ1 ρ1 H1 x1 q1 g1 m1 r1 s1 => ?_
      refine LE_mk (wE_le hΦ i σv μ1) s1 m1 q1 fun w μ2 ρ2 H2 x2 q2 g2 m2 r2 s2 => ?_
      refine ⟨v, w, μ2, ρ2, m2, r1.grow g2, r2, getW_mono (fun u q3 x3 r3 => ?_) q2⟩
      refine LE_mk (wE_le hΦ e σv μ2) s2 m2 q3 fun y μ4 ρ4 H4 x4 q4 g4 m4 r4 s4 => ?_
      refine ⟨u, y, ρ4, r3.grow g4, r4, augW_mono (fun z q5 x5 r5 => ?_) q4⟩
      refine ⟨v, w, z, μ4, ρ4, m4, (r1.grow g2).grow g4, r2.grow g4, r5, stoW_mono (fun μ6 q6 ρ6 H6 g6 m6 => ?_) q5⟩
      exact q6 ρ6 H6 _ (((g1.trans g2).trans g4).trans g6) m6 (s4.grow g6)
    · cases h
  | .exp e, sc, x, h, X, g => by
    unfold chkS at h
    split at h
    · rename_i v sp
      simp only [Bool.and_eq_true, Bool.not_eq_true'] at h
      refine PS.imp (ps_expr (sndE hΦ e sc _ h.1 _ X g).pe (no_swap h.2)) fun D σ H q => ?_
      obtain ⟨σv, μ, ρ, s, m, q⟩ := q
      refine LE_mk (wE_le hΦ e σv μ) s m q fun v μ1 ρ1 H1 x1 q1 g1 m1 r1 s1 => ?_
      exact q1 ρ1 H1 σ g1 m1 s1
    · cases h
  | .ret e, sc, x, h, X, g => by
    unfold chkS at h
    split at h
    · rename_i v sp
      refine PS.imp (ps_ret (sndE hΦ e sc _ h _ X g).pe) fun D σ H q => ?_
      obtain ⟨σv, μ, ρ, s, m, q⟩ := q
      exact ⟨σv, μ, ρ, s, m, q⟩
    · cases h
  | .retN, sc, x, h, X, g => by
    unfold chkS at h
    split at h
    · refine PS.imp ps_retN fun D σ H q => ?_
      obtain ⟨σv, μ, ρ, s, m, q⟩ := q
      exact LK.self q m .none
    · cases h
  | .ifs c a b, sc, x, h, X, g => by
    unfold chkS at h
    split at h
    · simp only [Bool.and_eq_true] at h
      obtain ⟨⟨⟨hc, hl⟩, ha⟩, hb⟩ := h
      refine PS.imp (ps_if ((sndE hΦ c sc _ hc _ X g).pt hl) (sndB a sc _ ha X g) (sndB b sc _ hb X g)) fun D σ H q => ?_
      obtain ⟨σv, μ, ρ, s, m, q⟩ := q
      refine LT_mk (wE_le hΦ c σv μ) s m q fun k μ1 ρ1 H1 q1 g1 m1 s1 => ?_
      cases k with
      | true => exact iteT ⟨σv, μ1, ρ1, s1, m1, wB_le hΦ a _ _ σv μ1 (LEn.grow g1) q1⟩
      | false => exact iteF ⟨σv, μ1, ρ1, s1, m1, wB_le hΦ b _ _ σv μ1 (LEn.grow g1) q1⟩
    · cases h
  | .whl c b, sc, x, h, X, g => by
    unfold chkS at h
    split at h
    · simp only [Bool.and_eq_true] at h
      obtain ⟨⟨hc, hl⟩, hb⟩ := h
      refine PS.imp (ps_while (by rw [g.xe]; exact PassesOwn.never) ((sndE hΦ c sc _ hc _ X g).pt hl) (sndB b sc _ hb X g)) fun D σ H q => ?_
      obtain ⟨σv, μ, ρ, s, m, n, q⟩ := q
      refine ⟨fun n2 σ2 H2 => ∃ σv2 μ2 ρ2, Grow X.K ρ H ρ2 H2 ∧ SgOk X.K ρ2 H2 σv2 σ2 ∧ MemOk X.K ρ2 H2 μ2 ∧ whlW (wE Φ C.G c) (wB Φ C.G b) n2 (LEn X.K ρ H D) σv2 μ2, ⟨n, σv, μ, ρ, Grow.refl, s, m, q⟩, fun n2 σ2 H2 hW => ?_⟩
      obtain ⟨σv2, μ2, ρ2, g2, s2, m2, q2⟩ := hW
      cases n2 with
      | zero => exact False.elim q2
      | succ n2 =>
        refine LT_mk (wE_le hΦ c σv2 μ2) s2 m2 q2 fun k μ3 ρ3 H3 q3 g3 m3 s3 => ?_
        cases k with
        | false => exact iteF (LKS.self (LKS.grow (g2.trans g3) q3) m3 s3)
        | true =>
          refine iteT ⟨fun σ4 H4 => ∃ σv4 μ4 ρ4, Grow X.K ρ H ρ4 H4 ∧ SgOk X.K ρ4 H4 σv4 σ4 ∧ MemOk X.K ρ4 H4 μ4 ∧ whlW (wE Φ C.G c) (wB Φ C.G b) n2 (LEn X.K ρ H D) σv4 μ4, fun σ4 H4 h4 => ⟨n2, by omega, h4⟩, σv2, μ3, ρ3, s3, m3, ?_⟩
          have g23 := g2.trans g3
          exact wB_le hΦ b ⟨whlW (wE Φ C.G c) (wB Φ C.G b) n2 (LEn X.K ρ H D), LK X.K ρ H D.rt, LKS X.K ρ H D.nx, whlW (wE Φ C.G c) (wB Φ C.G b) n2 (LEn X.K ρ H D)⟩ _ σv2 μ3
            ⟨fun σv4 μ4 h4 ρ4 H4 σ4 g4 m4 s4 => ⟨σv4, μ4, ρ4, g23.trans g4, s4, m4, h4⟩, fun _ _ h4 => LK.grow g23 h4, fun _ _ h4 => LKS.grow g23 h4, fun σv4 μ4 h4 ρ4 H4 σ4 g4 m4 s4 => ⟨σv4, μ4, ρ4, g23.trans g4, s4, m4, h4⟩⟩ q3
    · cases h
  | .fr t it b, sc, x, h, X, g => by
    unfold chkS at h
    split at h
    · simp only [Bool.and_eq_true] at h
      obtain ⟨⟨⟨hi, ht⟩, hb⟩, hz⟩ := h
      have pg := sndG (X := X) none _ g.calm g.nd (fun n hn => loc_of (X := X) g.fb (by rw [g.scp]; exact hn)) t _ (by rw [g.N]; exact ht) trivial
      refine PS.imp (ps_thaw (ps_for (by rw [g.xe]; exact PassesOwn.never) g.calm (sndI hΦ it sc _ _ hi _ X g) pg (sndB b sc _ hb X g) (no_fold hz))) fun D σ H q => ?_
      obtain ⟨σv, μ, ρ, s, m, q⟩ := q
      refine ⟨σv, μ, ρ, s, m, wI_le hΦ it σv μ _ _ (fun k μ1 q1 ρ1 H1 J g1 m1 w1 lk => ?_) q⟩
      have lkg : ∀ {ρ2 : List Addr} {H2 : Hp}, Grow X.K ρ1 H1 ρ2 H2 → ∀ r, k.lk = some r → ∃ a, ρ2[r]? = some a ∧ NFz X a ∧ ∀ o u, H a ≠ some (.frz o u) := fun g2 r er => by
        obtain ⟨a, e1, e2, e3⟩ := lk r er
        exact ⟨a, g2.at e1, e2, e3⟩
      let go : List Vl → L2.St → Hp → Prop := fun xs σ2 H2 => ∃ σv2 μ2 ρ2, Grow X.K ρ1 H1 ρ2 H2 ∧ SgOk X.K ρ2 H2 σv2 σ2 ∧ MemOk X.K ρ2 H2 μ2 ∧ frW k.src (asgW t) (wB Φ C.G b) xs (thD k.lk (LEn X.K ρ H D)) σv2 μ2
      refine ⟨fun i n σ2 H2 => i + n = k.items.length ∧ go (k.items.drop i) σ2 H2, ⟨k.items.length, by omega, σv, μ1, ρ1, Grow.refl, s.grow g1, m1, q1⟩, fun i n σ2 H2 hW => ?_⟩
      obtain ⟨en, σv2, μ2, ρ2, g2, s2, m2, q2⟩ := hW
      have hgd : gd μ2 k.src := by
        cases hd : k.items.drop i with
        | nil => rw [hd] at q2; exact q2.1
        | cons x xs => rw [hd] at q2; exact q2.1
      by_cases hlt : i < k.items.length
      · refine .inr ⟨w1.go i ρ2 H2 μ2 hlt g2 m2 hgd, fun σ3 H3 => go (k.items.drop (i + 1)) σ3 H3, fun σ3 H3 h3 => ⟨n - 1, by omega, by omega, h3⟩, fun x H3 y => ?_⟩
        obtain ⟨g3, m3, r3⟩ := w1.yld i ρ2 H2 μ2 x H3 k.items[i] g2 m2 hgd y (List.getElem?_eq_getElem hlt)
        rw [List.drop_eq_getElem_cons hlt] at q2
        refine ⟨_, σv2, μ2, ρ2, s2.grow g3, m3, r3, asgW_mono t _ σv2 _ _ (fun σv4 q4 σ4 s4 _ => ?_) q2.2⟩
        have gg := (g1.trans g2).trans g3
        have g23 := g2.trans g3
        refine ⟨σv4, μ2, ρ2, s4, m3, wB_le hΦ b ⟨frW k.src (asgW t) (wB Φ C.G b) (k.items.drop (i + 1)) (thD k.lk (LEn X.K ρ H D)), (thD k.lk (LEn X.K ρ H D)).rt, (thD k.lk (LEn X.K ρ H D)).nx, frW k.src (asgW t) (wB Φ C.G b) (k.items.drop (i + 1)) (thD k.lk (LEn X.K ρ H D))⟩ _ σv4 μ2
          ⟨fun σv5 μ5 h5 ρ5 H5 σ5 g5 m5 s5 => ⟨σv5, μ5, ρ5, g23.trans g5, s5, m5, h5⟩, fun a5 b5 h5 => LK.grow gg (show (LEn X.K ρ H D).rt a5 b5 from (thD_rt k.lk (LEn X.K ρ H D)) ▸ h5), fun _ _ h5 ρ5 H5 σ5 g5 m5 s5 => thaw_nx m5 s5 (gg.trans g5) (lkg (g23.trans g5)) ((thD_nx k.lk (LEn X.K ρ H D)).mp h5), fun σv5 μ5 h5 ρ5 H5 σ5 g5 m5 s5 => ⟨σv5, μ5, ρ5, g23.trans g5, s5, m5, h5⟩⟩ q4⟩
      · have ei : i = k.items.length := by omega
        subst ei
        rw [List.drop_length] at q2
        exact .inl ⟨w1.stop ρ2 H2 μ2 g2 m2 hgd, thaw_nx m2 s2 (g1.trans g2) (lkg g2) ((thD_nx k.lk (LEn X.K ρ H D)).mp q2.2)⟩
    · cases h
  | .pass, sc, x, h, X, g => by
    unfold chkS at h
    split at h
    · refine PS.imp ps_pass fun D σ H q => ?_
      obtain ⟨σv, μ, ρ, s, m, q⟩ := q
      exact LKS.self q m s
    · cases h
  | .brk, sc, x, h, X, g => by
    unfold chkS at h
    split at h
    · refine PS.imp ps_break fun D σ H q => ?_
      obtain ⟨σv, μ, ρ, s, m, q⟩ := q
      exact LKS.self q m s
    · cases h
  | .cnt, sc, x, h, X, g => by
    unfold chkS at h
    split at h
    · refine PS.imp ps_continue fun D σ H q => ?_
      obtain ⟨σv, μ, ρ, s, m, q⟩ := q
      exact LKS.self q m s
    · cases h
  | .sfld c o f e, sc, x, h, X, g => by
    unfold chkS at h
    split at h
    · rename_i a n ap v sp
      simp only [Bool.and_eq_true, decide_eq_true_eq, Bool.not_eq_true'] at h
      obtain ⟨⟨⟨⟨⟨en, hn⟩, ho⟩, hat⟩, he⟩, hv⟩ := h
      subst en
      refine PS.imp (ps_fld (sndE hΦ o sc _ ho _ X g).pe (sndE hΦ e sc _ he _ X g).pe (no_swap hv)) fun D σ H q => ?_
      obtain ⟨σv, μ, ρ, s, m, q⟩ := q
      refine LE_mk (wE_le hΦ e σv μ) s m q fun v μ1 ρ1 H1 x1 q1 g1 m1 r1 s1 => ?_
      refine LE_mk (wE_le hΦ o σv μ1) s1 m1 q1 fun w μ2 ρ2 H2 x2 q2 g2 m2 r2 s2 => ?_
      cases w with
      | ref r =>
        obtain ⟨p, rfl, qa⟩ := r2.ref_of
        cases e1 : insAt μ2 r with
        | none => simp only [e1] at q2
        | some oo =>
          simp only [e1] at q2
          obtain ⟨⟨e2, hz⟩, q2⟩ := q2
          obtain ⟨hcl, hno⟩ := g.ats _ hat
          obtain ⟨dx, ks, e3, rel⟩ := ins_of m2 e1 qa
          have e4 := ins_at e1
          obtain ⟨c1, fs⟩ := oo
          simp only at e2 e3 rel hz q2 e4
          subst e2
          have mu : Mut (H2 p) := by rw [e3]; trivial
          have gg : Grow X.K ρ2 H2 ρ2 (upd H2 p (.ins (He.ga X.K c1) dx (putF n x1 ks))) := grow_upd (.inr mu)
          have m3 : MemOk X.K ρ2 (upd H2 p (.ins (He.ga X.K c1) dx (putF n x1 ks))) (μ2.set r (.ins c1 (putA n v fs))) :=
            m2.write e4 qa rfl ⟨dx, _, upd_same, fs_put (Paired.mapQ (fun p q z => ⟨z.1, z.2.grow gg⟩) rel) (((r1.grow g2).grow gg))⟩ rfl
          exact ⟨p, _, dx, ks, rfl, e3, hcl, hno, by rw [← Paired.length rel]; omega, q2 ρ2 _ σ ((g1.trans g2).trans gg) m3 (s2.grow gg)⟩
      | _ => exact False.elim q2
    · cases h
  | .never, sc, x, h, X, g => PS.imp ps_never fun D σ H q => by
      obtain ⟨σv, μ, ρ, s, m, q⟩ := q
      exact q
  | .tryN b, sc, x, h, X, g => by
    unfold chkS at h
    split at h
    · refine PS.imp (ps_try_never (by rw [g.xe]; exact fun _ _ z => z) (sndB b sc _ h X g) pss_nil) fun D σ H q => ?_
      obtain ⟨σv, μ, ρ, s, m, q⟩ := q
      exact ⟨σv, μ, ρ, s, m, wB_le hΦ b _ _ σv μ ⟨fun _ _ h => h, fun _ _ h => h, fun _ _ h => h, fun _ _ h => h⟩ q⟩
    · cases h
theorem sndB : ∀ (b : IB) (sc : Scope) (xs : List Stmt), chkB C b sc xs = true → ∀ (X : Cx), Good C Φ sc (fun _ => true) X → PSs X xs (LS X.K (wB Φ C.G b))
  | .nil, sc, xs, h, X, g => by
    cases xs with
    | cons y ys => simp [chkB] at h
    | nil =>
      refine PSs.imp pss_nil fun D σ H q => ?_
      obtain ⟨σv, μ, ρ, s, m, q⟩ := q
      exact LKS.self q m s
  | .cons st b, sc, xs, h, X, g => by
    cases xs with
    | nil => simp [chkB] at h
    | cons y ys =>
      simp only [chkB, Bool.and_eq_true] at h
      refine PSs.imp (pss_cons (sndS st sc y h.1 X g) (sndB b sc ys h.2 X g)) fun D σ H q => ?_
      obtain ⟨σv, μ, ρ, s, m, q⟩ := q
      refine ⟨σv, μ, ρ, s, m, wS_le hΦ st ⟨wB Φ C.G b (LEn X.K ρ H D), LK X.K ρ H D.rt, LKS X.K ρ H D.bk, LKS X.K ρ H D.ct⟩ _ σv μ ⟨fun σv1 μ1 q1 ρ1 H1 σ1 g1 m1 s1 => ?_, fun _ _ h => h, fun _ _ h => h, fun _ _ h => h⟩ q⟩
      exact ⟨σv1, μ1, ρ1, s1, m1, wB_le hΦ b _ _ σv1 μ1 (LEn.grow g1) q1⟩
end
end
end PV

/-! a whole text -/
namespace PV
open PySem PySem.Spec PyProof.Rows L2

/-- the name within the class -/
def Fd.fn (d : Fd) : Str := match d.own with
  | none => d.nm
  | some p => p.2
def Fd.fun? (d : Fd) : Option (Str × List Str × List Vl) := match d.own with
  | none => some (d.nm, d.ps, d.ds)
  | some _ => none
def Fd.mth? (d : Fd) : Option (Str × Str × Str × List Str × List Vl) := match d.own with
  | none => none
  | some p => some (d.nm, p.1, p.2, d.ps, d.ds)
/-- the def's name, if it makes lambdas -/
def meOf (B : List Str) (d : Fd) : Option Str := match d.own with
  | none => if lamN d.nm ∈ B then some d.nm else none
  | some _ => none
theorem me_nm {B : List Str} {d : Fd} {f : Str} (h : meOf B d = some f) : d.own = none ∧ d.nm = f := by
  unfold meOf at h
  split at h
  · rename_i e
    split at h
    · cases h; exact ⟨e, rfl⟩
    · cases h
  · cases h
def cfgOf (F : List Fd) (G : List (Str × Vl)) (B : List Str) (Cl : List Str) (At : List (Str × Str)) (T : List (Str × List (Str × Int))) (d : Fd) : Cfg := ⟨d.N, F.filterMap Fd.fun?, G, B, F.filterMap Fd.mth?, Cl, At, T, meOf B d⟩
/-- the look at one def of the text -/
def chkD (F : List Fd) (G : List (Str × Vl)) (B : List Str) (Cl : List Str) (At : List (Str × Str)) (T : List (Str × List (Str × Int))) (d : Fd) (st : Stmt) : Bool := scopeB d.N d.ps (defScope st) && chkB (cfgOf F G B Cl At T d) d.body (defScope st) (defBody st)

/-- a def as it stands behind the top -/
structure DefAt (K : PySem.W.Frag) (mg : Str → Option Value) (d : Fd) (st : Stmt) (fa : Addr) (fd : FuncData) : Prop where
  ok : ∃ (oc : Value) (od : Option Addr) (dV kV doc pm : Value) (an : Option Addr) (cdv ct : Value) (osl : Array (Option Value)),
    fd = PySem.W.fnOf d.fn d.nm (defArgs st) (defBody st) (defScope st) dV kV doc pm an cdv ct ∧ K.lookup fa = some ⟨oc, od, .func fd, osl⟩ ∧ PySem.W.codeIn K cdv d.nm = true
  kp : PySem.W.keepIn K (.ref fa) = true
  here : d.own = none → mg d.nm = some (.ref fa)
  own : ∀ c m, d.own = some (c, m) → d.nm = mName c m ∧ fa = He.ma K (He.ga K c) m ∧ Cls K (He.ga K c) ∧ Meth K (He.ga K c) m fa
  bd : ∀ n, ∃ (us : List Value) (dvs : List V), Binds K fd d.ps us ∧ Vals dvs us ∧ ∀ ρ H, Reps K ρ H (d.ds.drop n) dvs

theorem lookup_fun : ∀ {F : List Fd} {f : Str} {ps : List Str} {ds : List Vl}, (F.filterMap Fd.fun?).lookup f = some (ps, ds) → ∃ d ∈ F, d.own = none ∧ d.ps = ps ∧ d.ds = ds ∧ d.nm = f
  | [], _, _, _, h => by simp at h
  | d :: F, f, ps, ds, h => by
    cases e : d.own with
    | some p =>
      rw [List.filterMap_cons_none (by unfold Fd.fun?; rw [e])] at h
      obtain ⟨d2, h1, h2⟩ := lookup_fun h
      exact ⟨d2, List.mem_cons_of_mem _ h1, h2⟩
    | none =>
      rw [List.filterMap_cons_some (by unfold Fd.fun?; rw [e]), List.lookup_cons] at h
      by_cases q : f = d.nm
      · subst q
        rw [beq_self_eq_true] at h
        cases h
        exact ⟨d, List.mem_cons_self, e, rfl, rfl, rfl⟩
      · rw [show (f == d.nm) = false by simpa using q] at h
        obtain ⟨d2, h1, h2⟩ := lookup_fun h
        exact ⟨d2, List.mem_cons_of_mem _ h1, h2⟩
theorem lookup_mth : ∀ {F : List Fd} {f c m : Str} {ps : List Str} {ds : List Vl}, (F.filterMap Fd.mth?).lookup f = some (c, m, ps, ds) → ∃ d ∈ F, d.own = some (c, m) ∧ d.ps = ps ∧ d.ds = ds ∧ d.nm = f
  | [], _, _, _, _, _, h => by simp at h
  | d :: F, f, c, m, ps, ds, h => by
    cases e : d.own with
    | none =>
      rw [List.filterMap_cons_none (by unfold Fd.mth?; rw [e])] at h
      obtain ⟨d2, h1, h2⟩ := lookup_mth h
      exact ⟨d2, List.mem_cons_of_mem _ h1, h2⟩
    | some p =>
      rw [List.filterMap_cons_some (by unfold Fd.mth?; rw [e]), List.lookup_cons] at h
      by_cases q : f = d.nm
      · subst q
        rw [beq_self_eq_true] at h
        cases h
        exact ⟨d, List.mem_cons_self, e, rfl, rfl, rfl⟩
      · rw [show (f == d.nm) = false by simpa using q] at h
        obtain ⟨d2, h1, h2⟩ := lookup_mth h
        exact ⟨d2, List.mem_cons_of_mem _ h1, h2⟩

section
variable {P : Program} {w : World} {K : PySem.W.Frag} {mg : Str → Option Value} {base : Heap} {F : List Fd} {G : List (Str × Vl)} {B : List Str} {Cl : List Str} {At : List (Str × Str)} {T : List (Str × List (Str × Int))}
/-- THE WALK: each def keeps the promise that its meaning gives -/
theorem walk_all (hd : ∀ d ∈ F, ∃ st fa fd, DefAt K mg d st fa fd ∧ chkD F G B Cl At T d st = true)
    (hf : ∀ d ∈ F, F.find? (fun e => decide (e.nm = d.nm)) = some d)
    (hg : ∀ x v, G.lookup x = some v → ∃ (u : Value) (y : V), mg x = some u ∧ RelV y u ∧ ∀ ρ H, Rep K ρ H v y) (hb : ∀ x ∈ B, mg x = none) (hxt : Xtra base)
    (hcl : ∀ c ∈ Cl, Mk K (He.ga K c) (He.ma K (He.ga K c) "__init__") ∧ mg c = some (.ref (He.ga K c))) (hat : ∀ p ∈ At, Cls K (He.ga K p.1) ∧ NoAttr K (He.ga K p.1) p.2) (htb : ∀ n t, T.lookup n = some t → ∃ d, mg n = some (.ref d) ∧ TabK K w d t)
    (hlm : ∀ d ∈ F, ∀ f, meOf B d = some f → ∀ st fa fd, DefAt K mg d st fa fd → fd.code = .ref (He.cT K (f, none)).1 ∧ LamX.TabB base mg (He.cT K (f, none)).1 (He.cT K (f, none)).2) :
    ∀ (k : Nat), ∀ d ∈ F, ∀ st fa fd, DefAt K mg d st fa fd → chkD F G B Cl At T d st = true → FnG P w K mg base (2 * k + 1) fa fd d.ps (spOf K d.ps.length (phi F G k d.nm))
  | 0, d, hm, st, fa, fd, D, c => ⟨fun vs H Q E h => h.1, fun A outer s H args us vs Q E hr hgd he hbd hv hs => by
      obtain ⟨_, _, _, _, _, _, h⟩ := hs
      exact False.elim h⟩
  | k + 1, d, hm, st, fa, fd, D, c => by
    unfold chkD at c
    rw [Bool.and_eq_true] at c
    have S := scope_of c.1
    have ih := walk_all hd hf hg hb hxt hcl hat htb hlm k
    have hlm0 := fun f e => hlm d hm f e st fa fd D
    obtain ⟨oc, od, dV, kV, doc, pm, an, cdv, ct, osl, rfl, lk, hcd⟩ := D.ok
    refine fn_go (k := 2 * k + 2) lk hcd S (fun vs H Q E h => h.1) fun A outer s H vs Q E hr hgd hs => ?_
    obtain ⟨hl, args, μ, ρ, m, rs, h⟩ := hs
    have hphi : phi F G (k + 1) d.nm args μ (LK K ρ H Q) = (args.length = d.ps.length ∧ wB (phi F G k) G d.body ⟨fun _ μ1 => LK K ρ H Q .none μ1, LK K ρ H Q, fun _ _ => False, fun _ _ => False⟩ (startS d.N.length args) μ) := by
      simp only [phi, hf d hm]
    rw [hphi] at h
    have good : Good (cfgOf F G B Cl At T d) (phi F G k) (defScope st) (fun _ => true) (cxOf CX0 P w K mg base d.N d.nm (defScope st) fa cdv A outer s H E).nox := by
      refine ⟨rfl, rfl, S.nd, rfl, S.kind, fun _ _ => rfl, rfl, ?_, hgd, hxt, hg, hb, fun f ps ds e => ?_, fun c m ps ds e e0 => ?_, hcl, hat, htb, fun f e => ?_⟩
      · have := hr.units
        have h2 := hr.un
        show (A.deeper _).units + 65 < cLine
        omega
      · obtain ⟨d2, e5, e1, e2, e3, e4⟩ := lookup_fun e
        obtain ⟨st2, fa2, fd2, D2, c2⟩ := hd d2 e5
        subst e2 e3 e4
        exact ⟨2 * k + 1, fa2, fd2, hr.mono (by omega), D2.here e1, D2.kp, ih d2 e5 st2 fa2 fd2 D2 c2, D2.bd⟩
      · obtain ⟨d2, e5, e1, e2, e3, e4⟩ := lookup_mth e
        obtain ⟨st2, fa2, fd2, D2, c2⟩ := hd d2 e5
        obtain ⟨f1, f2, f3, f4⟩ := D2.own c m e1
        subst e2 f2
        have b := D2.bd 0
        rw [e3, e0] at b
        obtain ⟨us, dvs, b1, b2, b3⟩ := b
        have b4 := b3 [] H
        cases b4
        cases b2
        rw [← e4]
        exact ⟨2 * k + 1, fd2, hr, f3, f4, ih d2 e5 st2 _ fd2 D2 c2, b1⟩
      · obtain ⟨z1, z2⟩ := hlm0 f e
        exact ⟨hr.mono (by omega), z2, z1, by rw [← (me_nm e).2]; rfl⟩
    have run := sndB (phi_le k k (Nat.le_refl _)) d.body (defScope st) (defBody st) c.2 _ good
    refine ⟨_, run.nox, startS d.N.length args, μ, ρ, ?_, m, wB_le (phi_le k k (Nat.le_refl _)) d.body ⟨fun _ μ1 => LK K ρ H Q .none μ1, LK K ρ H Q, fun _ _ => False, fun _ _ => False⟩ _ _ _ ⟨fun σv1 μ1 q ρ1 H1 σ1 g1 m1 s1 => q ρ1 H1 .non g1 m1 .none, fun v μ1 q => q, fun _ _ q => False.elim q, fun _ _ q => False.elim q⟩ h.2⟩
    have hlen : d.ps.length ≤ d.N.length := by
      have := congrArg List.length S.pre
      rw [List.length_take] at this
      omega
    have rl := rs.length
    have get : ∀ (l : List Vl) (r : Sg) (i : Nat), getS (l.map some ++ r) i = if i < l.length then l[i]? else getS r (i - l.length) := by
      intro l
      induction l with
      | nil => intro r i; simp
      | cons x l ih =>
        intro r i
        cases i with
        | zero => simp [getS]
        | succ i => simp [getS, ih]
    have getR : ∀ (n i : Nat), getS (List.replicate n none) i = none := by
      intro n
      induction n with
      | zero => intro i; rfl
      | succ n ih =>
        intro i
        cases i with
        | zero => rfl
        | succ i => simp [List.replicate_succ, getS, ih]
    refine ⟨?_, fun i v e => ?_⟩
    · unfold startS L2.start
      simp only [List.length_append, List.length_map, List.length_replicate]
      omega
    · unfold startS at e
      rw [get] at e
      split at e
      · rename_i hi
        obtain ⟨x, e1, r1⟩ := rs.get e
        refine ⟨x, ?_, r1⟩
        unfold L2.start
        rw [List.getElem?_append_left (by rw [List.length_map]; omega), List.getElem?_map, e1]
        rfl
      · rw [getR] at e
        cases e
end

/-- the law's own promise from its meaning at every script; behind the script stand the tables of the defs that make lambdas -/
theorem law_spT {K : PySem.W.Frag} {t : List Vl → Mem → K1 → Prop} {fs : List Str} (hnd : (fs.map fun f => (He.cT K (f, none)).2).Nodup) (ht : ∀ ns : List Int, ns.length ≤ 63 → t [.ref 0] (.frz (ns.map Vl.int) :: fs.map Ob.tab) fun v _ => v = .bool true)
    (hm : ∀ vs μ (Q Q2 : K1), (∀ v μ, Q v μ → Q2 v μ) → t vs μ Q → t vs μ Q2) (H : Hp) (a : Addr) (ns : List Int) (hl : ns.length ≤ 63) (hN : NoLst H) (hT : ∀ f ∈ fs, H (He.cT K (f, none)).2 = some (.tbl #[])) (hS : SqL K H a (ns.map V.int)) :
    spOf K 1 t [.ref a] H (fun v _ => v = .bl true) fun _ _ _ => False := by
  have fz : FrzL K H a (ns.map V.int) := by
    rcases hS with (h | h) | h
    · exact absurd h (hN a _)
    · exact .inl h
    · exact .inr (.inr h)
  refine ⟨rfl, [.ref 0], .frz (ns.map Vl.int) :: fs.map Ob.tab, a :: fs.map (fun f => (He.cT K (f, none)).2), ⟨by simp, fun i o e => ?_, fun i j b o u e1 e2 e3 e4 h1 h2 => ?_⟩, .cons (.ref rfl) .nil, hm _ _ _ _ (fun v μ e ρ2 H2 x g m r => ?_) (ht ns hl)⟩
  · cases i with
    | zero =>
      cases e
      exact ⟨a, rfl, _, fz, Reps.of_ints ns⟩
    | succ i =>
      rw [List.getElem?_cons_succ, List.getElem?_map] at e
      cases hf : fs[i]? with
      | none => rw [hf] at e; cases e
      | some f =>
        rw [hf] at e
        cases e
        refine ⟨(He.cT K (f, none)).2, by rw [List.getElem?_cons_succ, List.getElem?_map, hf]; rfl, rfl, #[], hT f (List.mem_of_getElem? hf), ?_, fun pos cv z => ?_⟩
        · show TriplesOk []
          trivial
        · cases z
  · cases i with
    | zero =>
      cases e3
      cases h1
    | succ i =>
      cases j with
      | zero =>
        cases e4
        cases h2
      | succ j =>
        rw [List.getElem?_cons_succ] at e1 e2
        have hi := (List.getElem?_eq_some_iff.mp e1).1
        exact congrArg (· + 1) ((List.getElem?_inj hi hnd).mp (e1.trans e2.symm))
  · have e : v = .bool true := e
    subst e
    exact r.bool_of
/-- the law's own promise from its meaning at every script -/
theorem law_sp {K : PySem.W.Frag} {t : List Vl → Mem → K1 → Prop} (ht : ∀ ns : List Int, ns.length ≤ 63 → t [.ref 0] [.frz (ns.map Vl.int)] fun v _ => v = .bool true)
    (hm : ∀ vs μ (Q Q2 : K1), (∀ v μ, Q v μ → Q2 v μ) → t vs μ Q → t vs μ Q2) (H : Hp) (a : Addr) (ns : List Int) (hl : ns.length ≤ 63) (hO : Only H) (hS : SqL K H a (ns.map V.int)) :
    spOf K 1 t [.ref a] H (fun v _ => v = .bl true) fun _ _ _ => False := by
  have fz : FrzL K H a (ns.map V.int) := by
    rcases hS with (h | h) | h
    · rcases hO a with z | ⟨o, xs, z⟩
      · rw [z] at h; cases h
      · rw [z] at h; cases h
    · exact .inl h
    · exact .inr (.inr h)
  refine ⟨rfl, [.ref 0], [.frz (ns.map Vl.int)], [a], ⟨rfl, fun i o e => ?_, fun i j b o u e1 e2 e3 e4 h1 h2 => ?_⟩, .cons (.ref rfl) .nil, hm _ _ _ _ (fun v μ e ρ2 H2 x g m r => ?_) (ht ns hl)⟩
  · cases i with
    | zero =>
      cases e
      exact ⟨a, rfl, _, fz, Reps.of_ints ns⟩
    | succ i => simp at e
  · cases i with
    | zero =>
      cases e3
      cases h1
    | succ i => simp at e3
  · have e : v = .bool true := e
    subst e
    exact r.bool_of
end PV

/-! the head: what stands behind the module's top, and the end -/
namespace PV
open PySem PySem.Spec PyProof.Rows L2

mutual
def vlB (K : PySem.W.Frag) : Vl → Value → Bool
  | .none, u => match u with
    | .none => true
    | _ => false
  | .bool b, u => match u with
    | .bool c => b == c
    | _ => false
  | .int i, u => match u with
    | .int j _ => decide (i = j)
    | _ => false
  | .str x, u => match u with
    | .str y _ => decide (x = y)
    | _ => false
  | .tup vs, u => match u with
    | .ref a => match K.lookup a with
      | some ⟨.type c, _, .seq its _, _⟩ => decide (c = "tuple") && (decide (its.size ≤ sizeLine) && vlsB K vs its.toList)
      | _ => false
    | _ => false
  | .ref _, _ => false
def vlsB (K : PySem.W.Frag) : List Vl → List Value → Bool
  | [], us => match us with
    | [] => true
    | _ => false
  | v :: vs, us => match us with
    | u :: r => vlB K v u && vlsB K vs r
    | _ => false
end
mutual
theorem vlB_ok {K : PySem.W.Frag} : ∀ (v : Vl) (u : Value), vlB K v u = true → ∃ y, RelV y u ∧ ∀ ρ H, Rep K ρ H v y
  | .none, u, h => by
    simp only [vlB] at h
    split at h
    · exact ⟨.non, rfl, fun _ _ => .none⟩
    · cases h
  | .bool b, u, h => by
    simp only [vlB] at h
    split at h
    · rename_i c
      have e : b = c := eq_of_beq h
      subst e
      exact ⟨.bl b, rfl, fun _ _ => .bool b⟩
    · cases h
  | .int i, u, h => by
    simp only [vlB] at h
    split at h
    · rename_i c t
      have e := of_decide_eq_true h
      subst e
      exact ⟨.int i, ⟨t, rfl⟩, fun _ _ => .int i⟩
    · cases h
  | .str i, u, h => by
    simp only [vlB] at h
    split at h
    · rename_i c t
      have e := of_decide_eq_true h
      subst e
      exact ⟨.str i, ⟨t, rfl⟩, fun _ _ => .str i⟩
    · cases h
  | .tup vs, u, h => by
    simp only [vlB] at h
    split at h
    · rename_i a
      split at h
      · rename_i c od its n osl e
        simp only [Bool.and_eq_true, decide_eq_true_eq] at h
        obtain ⟨h1, h2, h3⟩ := h
        subst h1
        obtain ⟨ys, rv, rp⟩ := vlsB_ok vs its.toList h3
        exact ⟨.ref a, rfl, fun ρ H => .tup (.inr ⟨_, its, n, e, rfl, rfl, h2, rv⟩) (rp ρ H)⟩
      · cases h
    · cases h
  | .ref _, _, h => by simp [vlB] at h
theorem vlsB_ok {K : PySem.W.Frag} : ∀ (vs : List Vl) (us : List Value), vlsB K vs us = true → ∃ ys, Vals ys us ∧ ∀ ρ H, Reps K ρ H vs ys
  | [], us, h => by
    simp only [vlsB] at h
    split at h
    · exact ⟨[], .nil, fun _ _ => .nil⟩
    · cases h
  | v :: vs, us, h => by
    simp only [vlsB] at h
    split at h
    · rw [Bool.and_eq_true] at h
      obtain ⟨y, r1, p1⟩ := vlB_ok v _ h.1
      obtain ⟨ys, r2, p2⟩ := vlsB_ok vs _ h.2
      exact ⟨y :: ys, .cons r1 r2, fun ρ H => .cons (p1 ρ H) (p2 ρ H)⟩
    · cases h
end

/-- the module's constants -/
def cstsB (G : List (Str × Vl)) (K : PySem.W.Frag) : Bool := G.all fun q => match PySem.W.nsIn K mainGlobals q.1 with
  | some (some u) => vlB K q.2 u
  | _ => false
/-- the tables' values, by key -/
def tabV (T : List (Str × List (Str × Int))) (K : PySem.W.Frag) : Bool := T.all fun t => t.2.all fun q => match PySem.W.nsIn K (He.ga K t.1) q.1 with
  | some (some (.int i _)) => decide (i = q.2)
  | _ => false
abbrev AlQ : Type := Bool × He.AlD
abbrev AlP : Type := (Bool × AlQ) × (Bool × List (Option (List (Option (Str × Int)))))
/-- no limit of figures was set; sys.modules is no list -/
def xtB (K : PySem.W.Frag) : Bool :=
  (match K.lookup cStatics with
  | some o => (match o.data with
    | .dict es _ => es.all (fun e => match e.key with | .str _ _ => true | _ => false) && (nsFind es "sys.int_max_str_digits").isNone
    | _ => false)
  | none => false) &&
  (match K.lookup sysModules with
  | some o => (match o.cls with
    | .type n => !decide (n = "list")
    | _ => false)
  | none => false)
theorem xtB_ok {K : PySem.W.Frag} {h : Heap} (x : xtB K = true) (hK : K.In h) : Xtra h := by
  unfold xtB at x
  rw [Bool.and_eq_true] at x
  obtain ⟨x1, x2⟩ := x
  constructor
  · cases ho : K.lookup cStatics with
    | none => rw [ho] at x1; cases x1
    | some o =>
      rw [ho] at x1
      have ho := hK _ _ ho
      dsimp only at x1
      cases hd : o.data with
      | dict es ep =>
        rw [hd] at x1
        dsimp only at x1
        rw [Bool.and_eq_true] at x1
        have hns : h.isNs cStatics = true := by
          unfold Heap.isNs
          rw [ho]
          dsimp only
          rw [hd]
          exact x1.1
        refine ⟨_, Heap.Ns.of_isNs hns, ?_⟩
        unfold Heap.nsMap
        rw [ho]
        dsimp only
        rw [hd]
        exact Option.isNone_iff_eq_none.mp x1.2
      | _ => rw [hd] at x1; cases x1
  · cases ho : K.lookup sysModules with
    | none => rw [ho] at x2; cases x2
    | some o =>
      rw [ho] at x2
      have ho := hK _ _ ho
      dsimp only at x2
      refine ⟨o, ho, fun z => ?_⟩
      rw [z] at x2
      simp at x2
def obsP (G : List (Str × Vl)) (T : List (Str × List (Str × Int))) (fa : List He.Fa) (fn : List He.DefD) (K : PySem.W.Frag) : AlP := ((xtB K, cstsB G K, He.obsD fa fn K), (tabV T K, T.map fun t => He.dicW K (He.ga K t.1)))
def valP (T : List (Str × List (Str × Int))) (fn : List He.DefD) (w : World) : AlP := ((true, true, He.valD fn), (true, T.map fun t => some (He.keysIn w.params (t.2.map (·.1)))))
/-- the objects that the top made, by what names them: level by level, none of the boot's; what stands twice stands twice -/
def nextQ (g : Addr → Option Obj) (as : List Addr) : List Addr := (as.flatMap fun a => match g a with
  | some o => He.refsD o
  | none => []).filter (Nat.ble 4 ·)
def asQ (g : Addr → Option Obj) : Nat → List Addr → List Addr
  | 0, as => as
  | n + 1, as => as ++ asQ g n (nextQ g as)
def frQ (n : Nat) (g : Addr → Option Obj) : PySem.W.Frag := He.frT g (cStatics :: sysModules :: asQ g n [mainGlobals])
def obsK (G : List (Str × Vl)) (T : List (Str × List (Str × Int))) (fa : List He.Fa) (fn : List He.DefD) (tf : List He.Defn) (g : Addr → Option Obj) (K : PySem.W.Frag) : AlP := ((xtB K && (He.tabsB g tf K && decide (tf.map fun p => (He.cT K p).2).Nodup), cstsB G K, He.obsD fa fn K), (tabV T K, T.map fun t => He.dicW K (He.ga K t.1)))
def obsPG (n : Nat) (G : List (Str × Vl)) (T : List (Str × List (Str × Int))) (fa : List He.Fa) (fn : List He.DefD) (tf : List He.Defn) (g : Addr → Option Obj) : AlP := obsK G T fa fn tf g (frQ n g)
def SaysP (G : List (Str × Vl)) (T : List (Str × List (Str × Int))) (fa : List He.Fa) (fn : List He.DefD) (w : World) (K : PySem.W.Frag) : Prop := obsP G T fa fn K = valP T fn w
/-- .. and the defs' tables: empty, not in K -/
structure SaysL (G : List (Str × Vl)) (T : List (Str × List (Str × Int))) (fa : List He.Fa) (fn : List He.DefD) (tf : List He.Defn) (w : World) (h : Heap) (K : PySem.W.Frag) : Prop where
  s : SaysP G T fa fn w K
  nd : (tf.map fun p => (He.cT K p).2).Nodup
  hd : ∀ p ∈ tf, PySem.W.codeHdIn K (He.cT K p).1 (He.cT K p).2 = true
  out : ∀ p ∈ tf, K.lookup (He.cT K p).2 = none
  empty : ∀ p ∈ tf, h.get? (He.cT K p).2 = some emptyO
theorem says_of {n : Nat} {G : List (Str × Vl)} {T : List (Str × List (Str × Int))} {fa : List He.Fa} {fn : List He.DefD} {tf : List He.Defn} {w : World} {h : Heap} (e : obsPG n G T fa fn tf h.get? = valP T fn w) : SaysL G T fa fn tf w h (frQ n h.get?) := by
  unfold obsPG obsK valP at e
  obtain ⟨e1, e2⟩ := Prod.mk.inj e
  obtain ⟨e3, e4⟩ := Prod.mk.inj e1
  rw [Bool.and_eq_true, Bool.and_eq_true, decide_eq_true_eq] at e3
  obtain ⟨x1, x2, x3⟩ := e3
  have key : ∀ p ∈ tf, PySem.W.codeHdIn (frQ n h.get?) (He.cT (frQ n h.get?) p).1 (He.cT (frQ n h.get?) p).2 = true ∧ ∃ o, h.get? (He.cT (frQ n h.get?) p).2 = some o ∧ He.emptyTab o = true := fun p hp => by
    obtain ⟨h3, h4⟩ := He.ba (List.all_eq_true.mp x2 p hp)
    refine ⟨h3, ?_⟩
    cases q : h.get? (He.cT (frQ n h.get?) p).2 with
    | none => rw [q] at h4; cases h4
    | some o => rw [q] at h4; exact ⟨o, rfl, h4⟩
  refine ⟨?_, x3, fun p hp => (key p hp).1, fun p hp => ?_, fun p hp => ?_⟩
  · unfold SaysP obsP valP
    rw [x1, e4, e2]
  · obtain ⟨_, o, q, z⟩ := key p hp
    exact He.frT_none q z
  · obtain ⟨_, o, q, z⟩ := key p hp
    rw [q, He.emptyTab_eq z]
    rfl
def hookP (n : Nat) (G : List (Str × Vl)) (T : List (Str × List (Str × Int))) (fa : List He.Fa) (fn : List He.DefD) (tf : List He.Defn) : PySem.W.Hook where
  α := AlP
  obs := fun s => obsPG n G T fa fn tf s.heap.get?
  val := fun w => valP T fn w
  says := fun w h => ∃ K : PySem.W.Frag, K.In h ∧ SaysL G T fa fn tf w h K
  of := fun _ _ e => ⟨_, He.frT_in, says_of e⟩
  keeps := fun _ _ _ ⟨K, hK, c⟩ k => ⟨K, PySem.W.Frag.In.keeps hK k, ⟨c.s, c.nd, c.hd, c.out, fun p hp => k _ _ (c.empty p hp)⟩⟩
theorem obsPG_eq {n : Nat} {G : List (Str × Vl)} {T : List (Str × List (Str × Int))} {fa : List He.Fa} {fn : List He.DefD} {tf : List He.Defn} {g : Addr → Option Obj} {s : Shared} (h : ∀ a, g a = s.heap.get? a) : obsPG n G T fa fn tf g = (hookP n G T fa fn tf).obs s := by
  have e : g = s.heap.get? := funext h
  rw [e] <;> rfl

def dvOf : Vl → He.Dv
  | .bool b => .bl b
  | .int i => .int i
  | .str s => .str s
  | _ => .non
abbrev Ent := Fd × Stmt
def Fd.at_ (d : Fd) : Str × Option Str := match d.own with
  | none => (d.nm, none)
  | some p => (p.1, some p.2)
def Ent.dd (e : Ent) : He.DefD := ⟨e.1.at_, e.1.fn, e.1.nm, defArgs e.2, defBody e.2, defScope e.2, e.1.ds.map dvOf, []⟩
abbrev FunE (K : PySem.W.Frag) (e : Ent) (f : Addr) (fd : FuncData) : Prop := FunD K e.1.fn e.1.nm (defArgs e.2) (defBody e.2) (defScope e.2) ((e.1.ds.map dvOf).map (He.Dv.v K)) [] f fd
/-- what a call of this def binds -/
def BdOk (e : Ent) : Prop := ∀ (K : PySem.W.Frag) (f : Addr) (fd : FuncData), FunE K e f fd → ∀ n, ∃ (us : List Value) (dvs : List V), Binds K fd e.1.ps us ∧ Vals dvs us ∧ ∀ ρ H, Reps K ρ H (e.1.ds.drop n) dvs
theorem bd_none {e : Ent} (hd : e.1.ds = [])
    (h : ∀ (kV doc pm : Value) (an : Option Addr) (cdv ct : Value) (us : List Value), us.length = e.1.ps.length → bindArgs (PySem.W.fnOf e.1.fn e.1.nm (defArgs e.2) (defBody e.2) (defScope e.2) .none kV doc pm an cdv ct) ⟨us, []⟩ = pure (e.1.ps.zip us)) : BdOk e := fun K f fd F n => by
  unfold FunE at F
  rw [hd] at F
  refine ⟨[], [], FunD.bindsN F h, .nil, fun ρ H => ?_⟩
  rw [hd, List.drop_nil]
  exact .nil
theorem bd_some {e : Ent} (hd : e.1.ds ≠ []) (hs : ∀ K ρ H, Reps K ρ H e.1.ds ((e.1.ds.map dvOf).map (He.Dv.v K))) (hn : e.1.ds.length ≤ e.1.ps.length)
    (h : ∀ j, j ≤ e.1.ds.length → ∀ (T : Addr) (kV doc pm : Value) (an : Option Addr) (cdv ct : Value) (us its : List Value), us.length = e.1.ps.length - e.1.ds.length + j → its.length = e.1.ds.length →
      ∃ k, bindArgs (PySem.W.fnOf e.1.fn e.1.nm (defArgs e.2) (defBody e.2) (defScope e.2) (.ref T) kV doc pm an cdv ct) ⟨us, []⟩ = seqItems? (.ref T) >>= k ∧ k (some its.toArray) = pure (e.1.ps.zip (us ++ its.drop j))) : BdOk e := fun K f fd F n => by
  have key : ∀ j, j ≤ e.1.ds.length → ∃ (us : List Value) (dvs : List V), Binds K fd e.1.ps us ∧ Vals dvs us ∧ ∀ ρ H, Reps K ρ H (e.1.ds.drop j) dvs := fun j hj => by
    have lv : ((e.1.ds.map dvOf).map (He.Dv.v K)).length = e.1.ds.length := by simp
    obtain ⟨us, r, b⟩ := FunD.binds1 (ps := e.1.ps) F (e.1.ps.length - e.1.ds.length + j) j (by
      intro z
      rw [← List.length_eq_zero_iff, lv] at z
      exact hd (List.length_eq_zero_iff.mp z)) (by rw [lv]; omega) (fun T kV doc pm an cdv ct us its h1 h2 => h j hj T kV doc pm an cdv ct us its h1 (by rw [h2, lv]))
    exact ⟨us, _, b, r, fun ρ H => (hs K ρ H).drop j⟩
  by_cases hj : n ≤ e.1.ds.length
  · exact key n hj
  · have := key e.1.ds.length (Nat.le_refl _)
    rw [List.drop_of_length_le (Nat.le_of_not_le hj)]
    rwa [List.drop_of_length_le (Nat.le_refl _)] at this

theorem find_nodup : ∀ {F : List Fd}, (F.map (·.nm)).Nodup → ∀ d ∈ F, F.find? (fun e => decide (e.nm = d.nm)) = some d
  | [], _, _, h => by cases h
  | e :: F, n, d, h => by
    rw [List.map_cons, List.nodup_cons] at n
    rcases List.mem_cons.mp h with rfl | h
    · rw [List.find?_cons_of_pos (by simp)]
    · rw [List.find?_cons_of_neg (by
        simp only [decide_eq_true_eq]
        intro z
        exact n.1 (z ▸ List.mem_map_of_mem h))]
      exact find_nodup n.2 d h

/-- a text: its defs, constants, the built-ins that it names -/
structure Txt where
  E : List Ent
  G : List (Str × Vl)
  B : List Str
  Cl : List Str
  At : List (Str × Str)
  n : Nat
  T : List (Str × List (Str × Int)) := []
def Txt.F (t : Txt) : List Fd := t.E.map (·.1)
def Ent.glo? (e : Ent) : Option He.Fa := match e.1.own with
  | none => some (.glo e.1.nm)
  | some _ => none
def Ent.meth? (e : Ent) : Option He.Fa := match e.1.own with
  | none => none
  | some p => some (.meth p.1 p.2)
/-- the classes -/
def Txt.Cs (t : Txt) : List Str := (t.E.filterMap (fun e => e.1.own.map (·.1)) ++ t.At.map (·.1)).eraseDups
def Txt.fa (t : Txt) : List He.Fa := t.E.filterMap Ent.glo? ++ (t.B.map He.Fa.free ++ (t.Cs.map He.Fa.cls ++ (t.E.filterMap Ent.meth? ++ (t.Cl.map He.Fa.glo ++ (t.Cl.map He.Fa.mkr ++ (t.At.map (fun p => He.Fa.noat p.1 p.2) ++ t.T.map fun p => He.Fa.glo p.1))))))
def Txt.fn (t : Txt) : List He.DefD := t.E.map Ent.dd
/-- the defs that make lambdas -/
def Txt.fs (t : Txt) : List Str := t.F.filterMap (meOf t.B)
def Txt.tf (t : Txt) : List He.Defn := t.fs.map fun f => (f, none)
abbrev Txt.hk (t : Txt) : PySem.W.Hook := hookP t.n t.G t.T t.fa t.fn t.tf
def Txt.ob (t : Txt) (s : PySem.W.SharedT) : AlP := obsPG t.n t.G t.T t.fa t.fn t.tf (HandSHeadRun.getT s)
theorem Txt.ob_eq (t : Txt) (s : PySem.W.SharedT) : t.ob s = t.hk.obs s.abs := obsPG_eq (HandSHeadRun.getT_eq s)

theorem look_in {α : Type} {x : Str} {v : α} : ∀ {l : List (Str × α)}, l.lookup x = some v → (x, v) ∈ l
  | [], h => by simp at h
  | p :: l, h => by
    rw [List.lookup_cons] at h
    split at h
    · rename_i q
      have : x = p.1 := by simpa using q
      cases h
      subst this
      exact List.mem_cons_self
    · exact List.mem_cons_of_mem _ (look_in h)
theorem look_out {α : Type} {x : Str} : ∀ {l : List (Str × α)}, l.lookup x = none → x ∉ l.map (·.1)
  | [], _ => by simp
  | p :: l, h => by
    rw [List.lookup_cons] at h
    split at h
    · cases h
    · rename_i q
      rw [List.map_cons, List.mem_cons]
      rintro (z | z)
      · simp [z] at q
      · exact look_out h z
theorem tkeys_all {P : Params} : ∀ {l : List DictEntry} {ks : List Str}, l.map He.keyOf = He.keysIn P ks → ∀ e ∈ l, ∃ x tk, e.key = .str x tk ∧ x ∈ ks
  | [], _, _, _, h => by cases h
  | e :: r, [], h, _, _ => by cases h
  | e :: r, k :: ks, h, e2, hm => by
    have h1 : He.keyOf e :: r.map He.keyOf = some (k, PyData.keyHash P k) :: He.keysIn P ks := h
    injection h1 with h2 h3
    rcases List.mem_cons.mp hm with rfl | hm
    · unfold He.keyOf at h2
      split at h2
      · rename_i x t q
        have h4 := Option.some.inj h2
        obtain ⟨h5, h6⟩ := Prod.mk.inj h4
        exact ⟨x, t, q, by rw [h5]; exact List.mem_cons_self⟩
      · cases h2
    · obtain ⟨x, tk, a, b⟩ := tkeys_all h3 e2 hm
      exact ⟨x, tk, a, List.mem_cons_of_mem _ b⟩
theorem tab_of {K : PySem.W.Frag} {w : World} {a : Addr} {tt : List (Str × Int)} (h : He.dicW K a = some (He.keysIn w.params (tt.map (·.1)))) (hv : (tt.all fun q => match PySem.W.nsIn K a q.1 with
  | some (some (.int i _)) => decide (i = q.2)
  | _ => false) = true) : TabK K w a tt := by
  obtain ⟨es, n, D⟩ := He.dicW_ok h
  refine ⟨⟨es, n, D⟩, fun z => ?_⟩
  cases hz : tt.lookup z with
  | some i =>
    have h2 := List.all_eq_true.mp hv _ (look_in hz)
    simp only at h2
    split at h2
    · rename_i j tk e
      have := of_decide_eq_true h2
      subst this
      exact ⟨_, e, tk, rfl⟩
    · cases h2
  | none =>
    have hk : es.toList.map He.keyOf = He.keysIn w.params (tt.map (·.1)) := by
      unfold He.dicW at h
      rw [D.at_] at h
      simpa [D.low] using h
    have ho := look_out hz
    refine ⟨none, ?_, rfl⟩
    unfold PySem.W.nsIn
    rw [D.at_]
    have f1 : es.toList.find? (·.key.isStr z) = none := by
      rw [List.find?_eq_none]
      intro e he
      obtain ⟨x, tk, e1, e2⟩ := tkeys_all hk e he
      rw [e1]
      intro y
      have : x = z := by simpa [Value.isStr] using y
      exact ho (this ▸ e2)
    have f2 : (es.toList.any (·.refKey)) = false := by
      rw [List.any_eq_false]
      intro e he
      obtain ⟨x, tk, e1, e2⟩ := tkeys_all hk e he
      simp [DictEntry.refKey, e1]
    simp only [f1, f2, Bool.false_eq_true, if_false]

theorem walk_txt {t : Txt} {P : Program} {w : World} {K : PySem.W.Frag} {h : Heap} {mg : Str → Option Value} (X : K.In h) (G : h.Ns mainGlobals mg) (c : SaysP t.G t.T t.fa t.fn w K)
    (hn : (t.F.map (·.nm)).Nodup) (ck : ∀ e ∈ t.E, chkD t.F t.G t.B t.Cl t.At t.T e.1 e.2 = true) (hb : ∀ e ∈ t.E, BdOk e) (hw : ∀ e ∈ t.E, ∀ c m, e.1.own = some (c, m) → e.1.nm = mName c m) (k : Nat) :
    ∀ e ∈ t.E, ∃ fa fd, (e.1.own = none → mg e.1.nm = some (.ref fa)) ∧ FunE K e fa fd ∧ ∀ base : Heap, Xtra base → (∀ f ∈ t.fs, LamX.TabB base mg (He.cT K (f, none)).1 (He.cT K (f, none)).2) → FnG P w K mg base (2 * k + 1) fa fd e.1.ps (spOf K e.1.ps.length (phi t.F t.G k e.1.nm)) := by
  have c0 : cstsB t.G K = true := congrArg (fun z : AlP => z.1.2.1) c
  have c1 : He.SaysD t.fa t.fn K := congrArg (fun z : AlP => z.1.2.2) c
  have ca := (He.ba (show ((t.fa.all fun f => f.ok K) && t.fn.all fun d => d.ok K) = true from congrArg (fun z : He.AlD => z.1) c1))
  have fok : ∀ f ∈ t.fa, f.ok K = true := List.all_eq_true.mp ca.1
  have dok : ∀ d ∈ t.fn, d.ok K = true := List.all_eq_true.mp ca.2
  have dvl : ∀ d ∈ t.fn, He.fnW K d.at_ = d.val := by
    have e : t.fn.map (fun d => He.fnW K d.at_) = t.fn.map He.DefD.val := congrArg (fun z : He.AlD => z.2) c1
    exact List.map_inj_left.mp e
  have at_ : ∀ e ∈ t.E, ∃ fa fd, DefAt K mg e.1 e.2 fa fd ∧ FunE K e fa fd := fun e he => by
    have hm : e.dd ∈ t.fn := List.mem_map_of_mem he
    obtain ⟨fd, F⟩ := He.DefD.funD (dvl _ hm) (dok _ hm)
    refine ⟨_, fd, ⟨?_, F.kp, fun h0 => ?_, fun c m h1 => ?_, hb e he K _ fd F⟩, F⟩
    rotate_left
    · have hgl := He.glo_ok X G (fok (.glo e.1.nm) (List.mem_append_left _ (List.mem_filterMap.mpr ⟨e, he, by unfold Ent.glo?; rw [h0]⟩)))
      have e0 : e.dd.at_ = (e.1.nm, none) := by
        show Fd.at_ _ = _
        unfold Fd.at_
        rw [h0]
      rw [e0]
      exact hgl
    · have e0 : e.dd.at_ = (c, some m) := by
        show Fd.at_ _ = _
        unfold Fd.at_
        rw [h1]
      have mm : He.Fa.meth c m ∈ t.fa := List.mem_append_right _ (List.mem_append_right _ (List.mem_append_right _ (List.mem_append_left _ (List.mem_filterMap.mpr ⟨e, he, by unfold Ent.meth?; rw [h1]⟩))))
      have mc : He.Fa.cls c ∈ t.fa := List.mem_append_right _ (List.mem_append_right _ (List.mem_append_left _ (List.mem_map_of_mem (List.mem_eraseDups.mpr (List.mem_append_left _ (List.mem_filterMap.mpr ⟨e, he, by rw [h1]; rfl⟩))))))
      rw [e0]
      exact ⟨hw e he c m h1, rfl, He.cls_ok (fok _ mc), He.meth_ok (fok _ mm)⟩
    obtain ⟨oc, od, dV, kV, doc, pm, an, cdv, ct, osl, e1, e2, e3, _, _⟩ := F.ex
    exact ⟨oc, od, dV, kV, doc, pm, an, cdv, ct, osl, e1, e2, e3⟩
  have hf : ∀ d ∈ t.F, t.F.find? (fun e => decide (e.nm = d.nm)) = some d := find_nodup hn
  have hg : ∀ x v, t.G.lookup x = some v → ∃ (u : Value) (y : V), mg x = some u ∧ RelV y u ∧ ∀ ρ H, Rep K ρ H v y := fun x v e => by
    have hm : (x, v) ∈ t.G := by
      have : ∀ (l : List (Str × Vl)), l.lookup x = some v → (x, v) ∈ l := by
        intro l
        induction l with
        | nil => intro h; simp at h
        | cons p l ih =>
          intro h
          rw [List.lookup_cons] at h
          split at h
          · rename_i q
            have : x = p.1 := by simpa using q
            cases h
            subst this
            exact List.mem_cons_self
          · exact List.mem_cons_of_mem _ (ih h)
      exact this _ e
    have h2 := List.all_eq_true.mp c0 (x, v) hm
    cases q : PySem.W.nsIn K mainGlobals x with
    | none => simp only [q] at h2; cases h2
    | some r =>
      cases r with
      | none => simp only [q] at h2; cases h2
      | some u =>
        simp only [q] at h2
        obtain ⟨y, r1, r2⟩ := vlB_ok v u h2
        exact ⟨u, y, PySem.W.mg_of X G q, r1, r2⟩
  have hfree : ∀ x ∈ t.B, mg x = none := fun x hx => He.free_ok X G (fok (.free x) (List.mem_append_right _ (List.mem_append_left _ (List.mem_map_of_mem hx))))
  have hcl : ∀ c ∈ t.Cl, Mk K (He.ga K c) (He.ma K (He.ga K c) "__init__") ∧ mg c = some (.ref (He.ga K c)) := fun c hc =>
    ⟨He.mkr_ok (fok (.mkr c) (List.mem_append_right _ (List.mem_append_right _ (List.mem_append_right _ (List.mem_append_right _ (List.mem_append_right _ (List.mem_append_left _ (List.mem_map_of_mem hc)))))))),
      He.glo_ok X G (fok (.glo c) (List.mem_append_right _ (List.mem_append_right _ (List.mem_append_right _ (List.mem_append_right _ (List.mem_append_left _ (List.mem_map_of_mem hc)))))))⟩
  have hat : ∀ p ∈ t.At, Cls K (He.ga K p.1) ∧ NoAttr K (He.ga K p.1) p.2 := fun p hp =>
    ⟨He.cls_ok (fok (.cls p.1) (List.mem_append_right _ (List.mem_append_right _ (List.mem_append_left _ (List.mem_map_of_mem (List.mem_eraseDups.mpr (List.mem_append_right _ (List.mem_map_of_mem hp)))))))),
      He.noat_ok (fok (.noat p.1 p.2) (List.mem_append_right _ (List.mem_append_right _ (List.mem_append_right _ (List.mem_append_right _ (List.mem_append_right _ (List.mem_append_right _ (List.mem_append_left _ (List.mem_map_of_mem (f := fun p : Str × Str => He.Fa.noat p.1 p.2) hp)))))))))⟩
  have htb : ∀ n tt, t.T.lookup n = some tt → ∃ d, mg n = some (.ref d) ∧ TabK K w d tt := fun n tt e => by
    have hm := look_in e
    refine ⟨He.ga K n, He.glo_ok X G (fok (.glo n) (List.mem_append_right _ (List.mem_append_right _ (List.mem_append_right _ (List.mem_append_right _ (List.mem_append_right _ (List.mem_append_right _ (List.mem_append_right _ (List.mem_map_of_mem (f := fun p : Str × List (Str × Int) => He.Fa.glo p.1) hm))))))))), ?_⟩
    have c2 : tabV t.T K = true := congrArg (fun z : AlP => z.2.1) c
    have c3 : (t.T.map fun t => He.dicW K (He.ga K t.1)) = t.T.map fun t => some (He.keysIn w.params (t.2.map (·.1))) := congrArg (fun z : AlP => z.2.2) c
    exact tab_of (List.map_inj_left.mp c3 _ hm) (List.all_eq_true.mp c2 _ hm)
  intro e he
  obtain ⟨fa, fd, D, F⟩ := at_ e he
  refine ⟨fa, fd, D.here, F, fun base hxt hTB => ?_⟩
  have hlm : ∀ d ∈ t.F, ∀ f, meOf t.B d = some f → ∀ st fa fd, DefAt K mg d st fa fd → fd.code = .ref (He.cT K (f, none)).1 ∧ LamX.TabB base mg (He.cT K (f, none)).1 (He.cT K (f, none)).2 := fun d hd f me st fa fd D => by
    refine ⟨?_, hTB f (List.mem_filterMap.mpr ⟨d, hd, me⟩)⟩
    obtain ⟨o1, rfl⟩ := me_nm me
    obtain ⟨e2, he2, rfl⟩ := List.mem_map.mp hd
    have hgl := He.glo_ok X G (fok (.glo e2.1.nm) (List.mem_append_left _ (List.mem_filterMap.mpr ⟨e2, he2, by unfold Ent.glo?; rw [o1]⟩)))
    have hh := D.here o1
    rw [hgl] at hh
    cases hh
    obtain ⟨oc, od, dV, kV, doc, pm, an, cdv, ct, osl, rfl, lk, hcd⟩ := D.ok
    obtain ⟨c, hc⟩ : ∃ c, cdv = .ref c := by
      unfold PySem.W.codeIn at hcd
      split at hcd
      · exact ⟨_, rfl⟩
      · cases hcd
    subst hc
    have e3 := He.codeOf_eq (K := K) (p := (e2.1.nm, none)) lk rfl
    show Value.ref c = .ref (He.codeOf K (e2.1.nm, none))
    rw [e3]
  refine walk_all (fun d hd => ?_) hf hg hfree hxt hcl hat htb hlm k e.1 (List.mem_map_of_mem he) e.2 fa fd D (ck e he)
  obtain ⟨e2, he2, rfl⟩ := List.mem_map.mp hd
  obtain ⟨fa2, fd2, D2, _⟩ := at_ e2 he2
  exact ⟨e2.2, fa2, fd2, D2, ck e2 he2⟩

/-- the meaning of the law's own def at every script -/
def KeptT (t : Txt) (k : Nat) (x : Str) : Prop := ∀ ns : List Int, ns.length ≤ 63 → phi t.F t.G k x [.ref 0] (.frz (ns.map Vl.int) :: t.fs.map Ob.tab) fun v _ => v = .bool true
/-- .. where no def makes a lambda -/
def Kept (t : Txt) (k : Nat) (x : Str) : Prop := ∀ ns : List Int, ns.length ≤ 63 → phi t.F t.G k x [.ref 0] [.frz (ns.map Vl.int)] fun v _ => v = .bool true
theorem end_txtT {t : Txt} {l : PySem.W.OpenLaw} {q : Program} {loose : List Str} {XP : (Str → Option Value) → Heap → Prop} {d : DefRec} {x : Str} {k : Nat} {e : Ent}
    (hl : l.most = some 63) (hdf : d.params.defaults = []) (hr : Room (2 * k + 1) callerA) (hd : d.name = e.1.nm) (he : e ∈ t.E) (ho : e.1.own = none) (hp : e.1.ps = [x]) (hds : e.1.ds = [])
    (hbd : ∀ (kV doc pm : Value) (an : Option Addr) (cdv ct : Value) (us : List Value), us.length = e.1.ps.length → bindArgs (PySem.W.fnOf e.1.fn e.1.nm (defArgs e.2) (defBody e.2) (defScope e.2) .none kV doc pm an cdv ct) ⟨us, []⟩ = pure (e.1.ps.zip us))
    (hn : (t.F.map (·.nm)).Nodup) (ck : ∀ e ∈ t.E, chkD t.F t.G t.B t.Cl t.At t.T e.1 e.2 = true) (hb : ∀ e ∈ t.E, BdOk e) (hw : ∀ e ∈ t.E, ∀ c m, e.1.own = some (c, m) → e.1.nm = mName c m) (kept : KeptT t k e.1.nm) :
    PySem.W.WalkO q loose XP t.hk.says l.row.toRowW d [] (fun f vs => PySem.call f vs) := by
  refine walk_goT (l := l) (n := 63) (k := 2 * k + 1) (x := x) hl (by decide) hdf hr ?_
  intro w mg fa h Y G hmg
  obtain ⟨K, KX, c⟩ := Y
  obtain ⟨fa2, fd, e1, F, ok⟩ := walk_txt (P := l.prog) (w := w) KX G c.s hn ck hb hw k e he
  rw [hd, e1 ho] at hmg
  cases hmg
  have up : ∀ f ∈ t.fs, (f, none) ∈ t.tf := fun f hf => List.mem_map_of_mem (f := fun f : Str => ((f, none) : He.Defn)) hf
  refine ⟨K, fd, spOf K 1 (phi t.F t.G k e.1.nm), t.tf.map (He.cT K), KX, fun p hp => ?_, fun p hp => ?_, fun p hp => ?_, fun s u => ?_, fun H a ns hl2 hN hT hS => ?_, fun base hb1 hb2 hTB => ?_⟩
  · obtain ⟨f, hf, rfl⟩ := List.mem_map.mp hp
    exact c.empty f hf
  · obtain ⟨f, hf, rfl⟩ := List.mem_map.mp hp
    exact c.out f hf
  · obtain ⟨f, hf, rfl⟩ := List.mem_map.mp hp
    exact PySem.W.codeHd_of_K KX (c.hd f hf)
  · unfold FunE at F
    rw [hds] at F
    have := FunD.bindsA F hbd s [u] (by rw [hp]; rfl)
    rw [hp] at this
    exact this
  · refine law_spT (by have := c.nd; unfold Txt.tf at this; rw [List.map_map] at this; exact this) kept (fun vs μ Q Q2 hQ h => phi_le k k (Nat.le_refl _) e.1.nm vs μ Q Q2 hQ h) H a ns hl2 hN (fun f hf => hT _ (List.mem_map_of_mem (up f hf))) hS
  · have := ok base (xtB_ok (congrArg (fun z : AlP => z.1.1) c.s) hb1) (fun f hf => hTB _ (List.mem_map_of_mem (up f hf)))
    rw [hp] at this
    exact this
theorem end_txt {t : Txt} {l : PySem.W.OpenLaw} {q : Program} {loose : List Str} {XP : (Str → Option Value) → Heap → Prop} {d : DefRec} {x : Str} {k : Nat} {e : Ent}
    (hl : l.most = some 63) (hdf : d.params.defaults = []) (hr : Room (2 * k + 1) callerA) (hd : d.name = e.1.nm) (he : e ∈ t.E) (ho : e.1.own = none) (hp : e.1.ps = [x]) (hds : e.1.ds = [])
    (hbd : ∀ (kV doc pm : Value) (an : Option Addr) (cdv ct : Value) (us : List Value), us.length = e.1.ps.length → bindArgs (PySem.W.fnOf e.1.fn e.1.nm (defArgs e.2) (defBody e.2) (defScope e.2) .none kV doc pm an cdv ct) ⟨us, []⟩ = pure (e.1.ps.zip us))
    (hn : (t.F.map (·.nm)).Nodup) (ck : ∀ e ∈ t.E, chkD t.F t.G t.B t.Cl t.At t.T e.1 e.2 = true) (hb : ∀ e ∈ t.E, BdOk e) (hw : ∀ e ∈ t.E, ∀ c m, e.1.own = some (c, m) → e.1.nm = mName c m) (hfs : t.fs = []) (kept : Kept t k e.1.nm) :
    PySem.W.WalkO q loose XP t.hk.says l.row.toRowW d [] (fun f vs => PySem.call f vs) :=
  end_txtT hl hdf hr hd he ho hp hds hbd hn ck hb hw fun ns h => by rw [hfs]; exact kept ns h
end PV

/-! reasoning over the meaning -/
namespace PV
open PySem PySem.Spec PyProof.Rows L2

/-- but for the places S, what stood in the store stands -/
def Fr (S : List Nat) (μ ν : Mem) : Prop := μ.length ≤ ν.length ∧ ∀ i, i < μ.length → i ∉ S → ν[i]? = μ[i]?
section
variable {S T : List Nat} {μ ν ξ : Mem} {r : Nat} {vs ws : List Vl} {o : Ob}
theorem Fr.refl : Fr S μ μ := ⟨Nat.le_refl _, fun _ _ _ => rfl⟩
theorem Fr.trans (a : Fr S μ ν) (b : Fr S ν ξ) : Fr S μ ξ := ⟨Nat.le_trans a.1 b.1, fun i h1 h2 => by rw [b.2 i (Nat.lt_of_lt_of_le h1 a.1) h2, a.2 i h1 h2]⟩
theorem Fr.mono (a : Fr S μ ν) (h : ∀ i ∈ S, i ∈ T) : Fr T μ ν := ⟨a.1, fun i h1 h2 => a.2 i h1 fun z => h2 (h i z)⟩
theorem Fr.of0 (a : Fr [] μ ν) : Fr S μ ν := a.mono fun _ h => nomatch h
theorem Fr.app {t : Mem} : Fr S μ (μ ++ t) := ⟨by simp, fun i h _ => List.getElem?_append_left h⟩
theorem Fr.set (h : r ∈ S) : Fr S μ (μ.set r o) := ⟨by simp, fun i h1 h2 => by rw [List.getElem?_set_ne fun z => h2 (by rw [← z]; exact h)]⟩
theorem Fr.setNew (a : Fr S μ ν) (h : μ.length ≤ r) : Fr S μ (ν.set r o) := ⟨by simpa using a.1, fun i h1 h2 => by rw [List.getElem?_set_ne (by omega), a.2 i h1 h2]⟩
theorem Fr.setIn (a : Fr S μ ν) (h : r ∈ S) : Fr S μ (ν.set r o) := a.trans (Fr.set h)
theorem Fr.appR {t : Mem} (a : Fr S μ ν) : Fr S μ (ν ++ t) := a.trans Fr.app
/-- places that are not there yet may be left out -/
theorem Fr.drop (a : Fr (r :: S) μ ν) (h : μ.length ≤ r) : Fr S μ ν := ⟨a.1, fun i h1 h2 => a.2 i h1 fun z => by
  rcases List.mem_cons.mp z with e | e
  · omega
  · exact h2 e⟩
theorem mut_lst (h : mutAt μ r = some vs) : lstAt μ r = some vs := by
  unfold mutAt at h
  unfold lstAt
  split at h
  · rename_i e; rw [e]; exact h
  · cases h
theorem mut_at (h : mutAt μ r = some vs) : μ[r]? = some (.lst vs) := by
  unfold mutAt at h
  split at h
  · rename_i e; rw [e]; cases h; rfl
  · cases h
theorem at_mut (h : μ[r]? = some (.lst vs)) : mutAt μ r = some vs := by unfold mutAt; rw [h]
theorem mut_lt (h : mutAt μ r = some vs) : r < μ.length := (List.getElem?_eq_some_iff.mp (mut_at h)).1
theorem lst_lt (h : lstAt μ r = some vs) : r < μ.length := by
  unfold lstAt at h
  split at h
  · rename_i e; exact (List.getElem?_eq_some_iff.mp e).1
  · rename_i e; exact (List.getElem?_eq_some_iff.mp e).1
  · cases h
theorem Fr.lst (a : Fr S μ ν) (h : lstAt μ r = some vs) (n : r ∉ S) : lstAt ν r = some vs := by
  have := a.2 r (lst_lt h) n
  unfold lstAt at h ⊢
  rw [this]; exact h
theorem Fr.mut (a : Fr S μ ν) (h : mutAt μ r = some vs) (n : r ∉ S) : mutAt ν r = some vs := by
  have := a.2 r (mut_lt h) n
  unfold mutAt at h ⊢
  rw [this]; exact h
theorem mut_new : mutAt (μ ++ [.lst vs]) μ.length = some vs := at_mut (by simp)
theorem lst_new : lstAt (μ ++ [.lst vs]) μ.length = some vs := mut_lst mut_new
theorem mut_set (h : r < μ.length) : mutAt (μ.set r (.lst vs)) r = some vs := at_mut (by simp [h])
theorem mut_set_ne {s : Nat} (h : r ≠ s) : mutAt (μ.set s o) r = mutAt μ r := by unfold mutAt; rw [List.getElem?_set_ne (Ne.symm h)]
theorem lst_set_ne {s : Nat} (h : r ≠ s) : lstAt (μ.set s o) r = lstAt μ r := by unfold lstAt; rw [List.getElem?_set_ne (Ne.symm h)]
theorem mut_app {t : Mem} (h : mutAt μ r = some vs) : mutAt (μ ++ t) r = some vs := Fr.mut (Fr.app (S := [])) h (by simp)
theorem lst_app {t : Mem} (h : lstAt μ r = some vs) : lstAt (μ ++ t) r = some vs := Fr.lst (Fr.app (S := [])) h (by simp)
end

/-- so many bits -/
def Bd (n : Nat) (i : Int) : Prop := i.natAbs < 2 ^ n
section
variable {n m : Nat} {i j : Int}
theorem Bd.mono (h : Bd n i) (q : n ≤ m) : Bd m i := Nat.lt_of_lt_of_le h (Nat.pow_le_pow_right (by decide) q)
theorem Bd.mul (h : Bd n i) (q : Bd m j) : Bd (n + m) (i * j) := by
  unfold Bd at *
  rw [Int.natAbs_mul, Nat.pow_add]
  exact Nat.mul_lt_mul'' h q
theorem Bd.add (h : Bd n i) (q : Bd m j) : Bd (n + m + 1) (i + j) := by
  unfold Bd at *
  have h1 := Nat.pow_le_pow_right (n := 2) (by decide) (show n ≤ n + m by omega)
  have h2 := Nat.pow_le_pow_right (n := 2) (by decide) (show m ≤ n + m by omega)
  rw [Nat.pow_succ]
  omega
theorem Bd.neg (h : Bd n i) : Bd n (-i) := by unfold Bd at *; rw [Int.natAbs_neg]; exact h
theorem Bd.sub (h : Bd n i) (q : Bd m j) : Bd (n + m + 1) (i - j) := by rw [Int.sub_eq_add_neg]; exact h.add q.neg
theorem Bd.mod (h : Bd m j) : j ≠ 0 → Bd m (i % j) := fun z => by
  unfold Bd at *
  have h1 := Int.emod_nonneg i z
  have h2 := Int.emod_lt i z
  omega
theorem Bd.div (h : Bd n i) : Bd n (i / j) := by
  unfold Bd at *
  exact Nat.lt_of_le_of_lt (Int.natAbs_ediv_le_natAbs i j) h
theorem Bd.of {N : Nat} (h : i.natAbs ≤ N) : Bd (N.log2 + 1) i := Nat.lt_of_le_of_lt h Nat.lt_log2_self
theorem Bd.lit : Bd (i.natAbs.log2 + 1) i := Nat.lt_log2_self
theorem Bd.ok (h : Bd n i) (q : Bd m j) (l : n + m ≤ 134217728) : mulOk i j := ⟨n, m, h, q, l⟩
theorem mulOk_le (N M : Nat) (h : i.natAbs ≤ N) (q : j.natAbs ≤ M) (l : N.log2 + 1 + (M.log2 + 1) ≤ 134217728) : mulOk i j := (Bd.of h).ok (Bd.of q) l
theorem divOk_le (N : Nat) (h0 : 0 < j) (h : j ≤ N) (l : N.log2 + 1 ≤ 9000) : divOk j := ⟨h0, _, Bd.of (N := N) (by omega), by omega, l⟩
end

section
variable {t : Txt} {k : Nat}
theorem phi_eq (hn : (t.F.map (·.nm)).Nodup) {d : Fd} (hd : d ∈ t.F) (f : Str) (hf : d.nm = f) (vs : List Vl) (μ : Mem) (Q : K1) :
    phi t.F t.G (k + 1) f vs μ Q = (vs.length = d.ps.length ∧ wB (phi t.F t.G k) t.G d.body ⟨fun _ μ1 => Q .none μ1, Q, fun _ _ => False, fun _ _ => False⟩ (startS d.N.length vs) μ) := by
  subst hf
  simp only [phi, find_nodup hn d hd]
theorem phi_post {f : Str} {vs : List Vl} {μ : Mem} {R Q : K1} (h : phi t.F t.G k f vs μ R) (q : ∀ v μ, R v μ → Q v μ) : phi t.F t.G k f vs μ Q := phi_le k k (Nat.le_refl _) f vs μ R Q q h
theorem phi_up {j : Nat} {f : Str} {vs : List Vl} {μ : Mem} {R Q : K1} (h : phi t.F t.G j f vs μ R) (q : ∀ v μ, R v μ → Q v μ) (l : j ≤ k) : phi t.F t.G k f vs μ Q := phi_le j k l f vs μ R Q q h
end

section
variable {Φ : FnT} {G : List (Str × Vl)}
/-- a for with what holds ahead of each turn -/
theorem fr_inv (hΦ : FLe Φ Φ) {src : List (Nat × List Vl)} {tg : Tg} {b : IB} {D : En} (I : Nat → Sg → Mem → Prop) :
    ∀ {items : List Vl} {σ : Sg} {μ : Mem}, I 0 σ μ →
      (∀ i x σ μ, items[i]? = some x → I i σ μ → gd μ src ∧ asgW tg x σ fun σ1 => wB Φ G b ⟨I (i + 1), D.rt, D.nx, I (i + 1)⟩ σ1 μ) →
      (∀ σ μ, I items.length σ μ → gd μ src ∧ D.nx σ μ) → frW src (asgW tg) (wB Φ G b) items D σ μ := by
  intro items
  induction items generalizing I with
  | nil =>
    intro σ μ h0 hs he
    exact he σ μ h0
  | cons x xs ih =>
    intro σ μ h0 hs he
    have h := hs 0 x σ μ rfl h0
    refine ⟨h.1, asgW_mono tg x σ _ _ (fun σ1 h1 => ?_) h.2⟩
    have go : ∀ σ2 μ2, I 1 σ2 μ2 → frW src (asgW tg) (wB Φ G b) xs D σ2 μ2 := fun σ2 μ2 h2 => ih (fun i => I (i + 1)) h2 (fun i y σ3 μ3 e h3 => hs (i + 1) y σ3 μ3 (by simpa using e) h3) (fun σ3 μ3 h3 => he σ3 μ3 (by simpa using h3))
    exact wB_le hΦ b ⟨I 1, D.rt, D.nx, I 1⟩ _ _ _ ⟨go, fun _ _ h => h, fun _ _ h => h, go⟩ h1
/-- a while with what holds ahead of each turn, and a number that falls -/
theorem whl_inv (hΦ : FLe Φ Φ) {c : IE} {b : IB} {D : En} (I : Nat → Sg → Mem → Prop) : ∀ (n : Nat) {σ : Sg} {μ : Mem}, I n σ μ →
      (∀ n σ μ, I n σ μ → wE Φ G c σ μ (tst fun k μ1 => if k = true then wB Φ G b ⟨fun σ2 μ2 => ∃ m, m < n ∧ I m σ2 μ2, D.rt, D.nx, fun σ2 μ2 => ∃ m, m < n ∧ I m σ2 μ2⟩ σ μ1 else D.nx σ μ1)) →
      ∃ n, whlW (wE Φ G c) (wB Φ G b) n D σ μ := by
  intro n σ μ h hs
  refine ⟨n + 1, ?_⟩
  have : ∀ m n σ μ, n < m → I n σ μ → whlW (wE Φ G c) (wB Φ G b) m D σ μ := by
    intro m
    induction m with
    | zero => intro n σ μ h; omega
    | succ m ih =>
      intro n σ μ hm hi
      refine wE_le hΦ c σ μ _ _ (tst_mono fun k μ1 h1 => ?_) (hs n σ μ hi)
      cases k with
      | false => exact h1
      | true =>
        have h2 := (if_pos rfl : (if true = true then _ else _) = _) ▸ h1
        show (if true = true then _ else _)
        rw [if_pos rfl]
        refine wB_le hΦ b ⟨fun σ2 μ2 => ∃ m, m < n ∧ I m σ2 μ2, D.rt, D.nx, fun σ2 μ2 => ∃ m, m < n ∧ I m σ2 μ2⟩ _ _ _ ⟨?_, fun _ _ h => h, fun _ _ h => h, ?_⟩ h2
        · rintro σ2 μ2 ⟨j, hj, h3⟩; exact ih j σ2 μ2 (by omega) h3
        · rintro σ2 μ2 ⟨j, hj, h3⟩; exact ih j σ2 μ2 (by omega) h3
  exact this (n + 1) n σ μ (by omega) h
/-- a comprehension with what holds ahead of each turn -/
theorem lc_inv {D : Nat} {src : List (Nat × List Vl)} {asg : Vl → Sg → (Sg → Prop) → Prop} {cond : Sg → Mem → KB → Prop} {elt : Sg → Mem → K1 → Prop} {σ : Sg} {Q : Mem → Prop}
    (ha : ∀ v σ (Q Q2 : Sg → Prop), (∀ σ, Q σ → Q2 σ) → asg v σ Q → asg v σ Q2) (hc : ∀ σ μ (Q Q2 : KB), (∀ v μ, Q v μ → Q2 v μ) → cond σ μ Q → cond σ μ Q2) (he : ∀ σ μ (Q Q2 : K1), (∀ v μ, Q v μ → Q2 v μ) → elt σ μ Q → elt σ μ Q2)
    (I : Nat → List Vl → Mem → Prop) : ∀ {items : List Vl} {acc : List Vl} {μ : Mem}, mutAt μ D = some acc → I 0 acc μ →
      (∀ i x acc μ, items[i]? = some x → mutAt μ D = some acc → I i acc μ → gd μ src ∧ asg x σ fun σ1 => cond σ1 μ fun b μ1 => if b = true then elt σ1 μ1 fun y μ2 => mutAt μ2 D = some acc ∧ acc.length < sizeLine ∧ I (i + 1) (acc ++ [y]) (μ2.set D (.lst (acc ++ [y]))) else mutAt μ1 D = some acc ∧ I (i + 1) acc μ1) →
      (∀ acc μ, mutAt μ D = some acc → I items.length acc μ → gd μ src ∧ Q μ) → lcW D src asg cond elt σ items μ Q := by
  intro items
  induction items generalizing I with
  | nil => intro acc μ hm h0 hs hq; exact hq acc μ hm h0
  | cons x xs ih =>
    intro acc μ hm h0 hs hq
    have h := hs 0 x acc μ rfl hm h0
    refine ⟨h.1, ha _ _ _ _ (fun σ1 h1 => hc _ _ _ _ (fun b μ1 h2 => ?_) h1) h.2⟩
    have go : ∀ acc2 μ2, mutAt μ2 D = some acc2 → I 1 acc2 μ2 → lcW D src asg cond elt σ xs μ2 Q := fun acc2 μ2 e1 h2 => ih (fun i => I (i + 1)) e1 h2 (fun i y acc3 μ3 e e2 h3 => hs (i + 1) y acc3 μ3 (by simpa using e) e2 h3) (fun acc3 μ3 e2 h3 => hq acc3 μ3 e2 (by simpa using h3))
    cases b with
    | false =>
      rw [if_neg (by decide)] at h2 ⊢
      exact go _ _ h2.1 h2.2
    | true =>
      rw [if_pos rfl] at h2 ⊢
      refine he _ _ _ _ (fun y μ2 h3 => ?_) h2
      rw [h3.1]
      exact ⟨h3.2.1, go _ _ (mut_set (mut_lt h3.1)) h3.2.2⟩
theorem lcE_inv (hΦ : FLe Φ Φ) {tg : Tg} {c elt : IE} {D : Nat} {src : List (Nat × List Vl)} {σ : Sg} {Q : Mem → Prop} (I : Nat → List Vl → Mem → Prop) {items : List Vl} {acc : List Vl} {μ : Mem} (e : mutAt μ D = some acc) (h0 : I 0 acc μ)
    (hs : ∀ i x acc μ, items[i]? = some x → mutAt μ D = some acc → I i acc μ → gd μ src ∧ asgW tg x σ fun σ1 => wE Φ G c σ1 μ (tst fun b μ1 => if b = true then wE Φ G elt σ1 μ1 fun y μ2 => mutAt μ2 D = some acc ∧ acc.length < sizeLine ∧ I (i + 1) (acc ++ [y]) (μ2.set D (.lst (acc ++ [y]))) else mutAt μ1 D = some acc ∧ I (i + 1) acc μ1))
    (hq : ∀ acc μ, mutAt μ D = some acc → I items.length acc μ → gd μ src ∧ Q μ) : lcW D src (asgW tg) (fun σ μ Q => wE Φ G c σ μ (tst Q)) (fun σ μ Q => wE Φ G elt σ μ Q) σ items μ Q :=
  lc_inv (fun v σ Q Q2 h1 h2 => asgW_mono tg v σ Q Q2 h1 h2) (fun σ μ Q Q2 h1 h2 => wE_le hΦ c σ μ _ _ (tst_mono h1) h2) (fun σ μ Q Q2 h1 h2 => wE_le hΦ elt σ μ _ _ h1 h2) I e h0 hs hq
end

section
variable {α : Type} {xs : List α} {μ : Mem} {r : Nat} {vs : List Vl}
theorem lst_set (h : r < μ.length) : lstAt (μ.set r (.lst vs)) r = some vs := mut_lst (mut_set h)
theorem atI_nat (n : Nat) : atI xs (n : Int) = xs[n]? := by
  unfold atI ixN
  rw [if_pos (Int.natCast_nonneg n)]
  by_cases h : n < xs.length
  · rw [if_pos (by omega)]; rfl
  · rw [if_neg (by omega), List.getElem?_eq_none (by omega)]; rfl
theorem atIs (xs : List α) : atI xs 0 = xs[0]? ∧ atI xs 1 = xs[1]? ∧ atI xs 2 = xs[2]? ∧ atI xs 3 = xs[3]? ∧ atI xs 4 = xs[4]? ∧ atI xs 5 = xs[5]? ∧ atI xs 6 = xs[6]? ∧ atI xs 7 = xs[7]? ∧ atI xs 8 = xs[8]? := ⟨atI_nat 0, atI_nat 1, atI_nat 2, atI_nat 3, atI_nat 4, atI_nat 5, atI_nat 6, atI_nat 7, atI_nat 8⟩
theorem atI_last : atI xs (-1) = xs.getLast? := by
  unfold atI ixN
  rw [if_neg (by decide), List.getLast?_eq_getElem?]
  cases xs with
  | nil => rfl
  | cons x xs =>
    rw [if_pos (by simp; omega)]
    show (x :: xs)[(-1 + ((x :: xs).length : Int)).toNat]? = _
    congr 1
    simp
    omega
theorem atI_two : atI xs (-2) = xs[xs.length - 2]? ∨ xs.length < 2 := by
  by_cases h : xs.length < 2
  · exact .inr h
  · refine .inl ?_
    unfold atI ixN
    rw [if_neg (by decide), if_pos (by omega)]
    show xs[(-2 + (xs.length : Int)).toNat]? = _
    congr 1
    omega
theorem ixs : ixN 1 0 = some 0 ∧ ixN 2 0 = some 0 ∧ ixN 2 1 = some 1 ∧ ixN 3 0 = some 0 ∧ ixN 3 1 = some 1 ∧ ixN 3 2 = some 2 ∧ ixN 4 0 = some 0 ∧ ixN 4 1 = some 1 ∧ ixN 4 2 = some 2 ∧ ixN 4 3 = some 3 ∧ ixN 5 0 = some 0 ∧ ixN 5 1 = some 1 ∧ ixN 5 2 = some 2 ∧ ixN 5 3 = some 3 ∧ ixN 5 4 = some 4 := by decide
theorem Bd.toInt (b : Bool) : Bd 1 b.toInt := by
  unfold Bd
  cases b <;> decide
theorem Bd.modN (i : Int) (n : Nat) [NeZero n] : Bd (n.log2 + 1) (i % @OfNat.ofNat Int n _) := Bd.mod (Bd.of (N := n) (Nat.le_refl _)) (by
  show (n : Int) ≠ 0
  have := NeZero.ne n
  omega)
theorem Bd.litN (n : Nat) : Bd (n.log2 + 1) (@OfNat.ofNat Int n _) := Bd.of (N := n) (Nat.le_refl _)
end

/-- folded: so that what stands within is looked at turn by turn -/
def lcN (Φ : FnT) (G : List (Str × Vl)) (elt : IE) (tg : Tg) (c : IE) (D : Nat) (src : List (Nat × List Vl)) (σ : Sg) (items : List Vl) (μ : Mem) (Q : Mem → Prop) : Prop :=
  lcW D src (asgW tg) (fun σ μ Q => wE Φ G c σ μ (tst Q)) (fun σ μ Q => wE Φ G elt σ μ Q) σ items μ Q
def frN (Φ : FnT) (G : List (Str × Vl)) (t : Tg) (b : IB) (src : List (Nat × List Vl)) (items : List Vl) : WB := frW src (asgW t) (wB Φ G b) items
def whN (Φ : FnT) (G : List (Str × Vl)) (c : IE) (b : IB) : WB := fun D σ μ => ∃ n, whlW (wE Φ G c) (wB Φ G b) n D σ μ
section
variable {Φ : FnT} {G : List (Str × Vl)}
theorem wE_lc (own : List (Str × Nat)) (elt : IE) (tg : Tg) (it : Itb) (c : IE) (σ : Sg) (μ : Mem) (Q : K1) :
    wE Φ G (.lc own elt tg it c) σ μ Q = wI Φ G it σ μ fun k μ1 => lcN Φ G elt tg c μ1.length k.src (clrsS σ (own.map (·.2))) k.items (μ1 ++ [.lst []]) fun μ2 => Q (.ref μ1.length) μ2 := by rw [wE]; rfl
theorem wS_fr (t : Tg) (it : Itb) (b : IB) (D : En) (σ : Sg) (μ : Mem) : wS Φ G (.fr t it b) D σ μ = wI Φ G it σ μ fun k μ1 => frN Φ G t b k.src k.items (thD k.lk D) σ μ1 := by rw [wS]; rfl
theorem thD_none (D : En) : thD none D = D := rfl
theorem wS_whl (c : IE) (b : IB) (D : En) (σ : Sg) (μ : Mem) : wS Φ G (.whl c b) D σ μ = whN Φ G c b D σ μ := by rw [wS]; rfl
theorem frN_inv (hΦ : FLe Φ Φ) {src : List (Nat × List Vl)} {tg : Tg} {b : IB} {D : En} (I : Nat → Sg → Mem → Prop) {items : List Vl} {σ : Sg} {μ : Mem} (h0 : I 0 σ μ)
    (hs : ∀ i x σ μ, items[i]? = some x → I i σ μ → gd μ src ∧ asgW tg x σ fun σ1 => wB Φ G b ⟨I (i + 1), D.rt, D.nx, I (i + 1)⟩ σ1 μ)
    (he : ∀ σ μ, I items.length σ μ → gd μ src ∧ D.nx σ μ) : frN Φ G tg b src items D σ μ := fr_inv hΦ I h0 hs he
theorem whN_inv (hΦ : FLe Φ Φ) {c : IE} {b : IB} {D : En} (I : Nat → Sg → Mem → Prop) (n : Nat) {σ : Sg} {μ : Mem} (h : I n σ μ)
    (hs : ∀ n σ μ, I n σ μ → wE Φ G c σ μ (tst fun k μ1 => if k = true then wB Φ G b ⟨fun σ2 μ2 => ∃ m, m < n ∧ I m σ2 μ2, D.rt, D.nx, fun σ2 μ2 => ∃ m, m < n ∧ I m σ2 μ2⟩ σ μ1 else D.nx σ μ1)) :
    whN Φ G c b D σ μ := whl_inv hΦ I n h hs
theorem lcN_inv (hΦ : FLe Φ Φ) {tg : Tg} {c elt : IE} {D : Nat} {src : List (Nat × List Vl)} {σ : Sg} {Q : Mem → Prop} (I : Nat → List Vl → Mem → Prop) {items : List Vl} {acc : List Vl} {μ : Mem} (e : mutAt μ D = some acc) (h0 : I 0 acc μ)
    (hs : ∀ i x acc μ, items[i]? = some x → mutAt μ D = some acc → I i acc μ → gd μ src ∧ asgW tg x σ fun σ1 => wE Φ G c σ1 μ (tst fun b μ1 => if b = true then wE Φ G elt σ1 μ1 fun y μ2 => mutAt μ2 D = some acc ∧ acc.length < sizeLine ∧ I (i + 1) (acc ++ [y]) (μ2.set D (.lst (acc ++ [y]))) else mutAt μ1 D = some acc ∧ I (i + 1) acc μ1))
    (hq : ∀ acc μ, mutAt μ D = some acc → I items.length acc μ → gd μ src ∧ Q μ) : lcN Φ G elt tg c D src σ items μ Q := lcE_inv hΦ I e h0 hs hq
end
end PV

/-! == of values without lists -/
namespace PV
open PySem PySem.Spec PyProof.Rows L2

mutual
/-- a value without lists, its data -/
def dat : Vl → PyData
  | .none => .none
  | .bool b => .bool b
  | .int i => .int i
  | .str s => .str s
  | .tup vs => .tuple (dats vs)
  | .ref _ => .none
def dats : List Vl → List PyData
  | [] => []
  | v :: vs => dat v :: dats vs
end
mutual
/-- no lists within, no deeper than n, texts that may be laid -/
def pur : Nat → Vl → Bool
  | _, .none => true
  | _, .bool _ => true
  | _, .int _ => true
  | _, .str s => (PyData.str s).canLay0
  | n, .tup vs => match n with
    | 0 => false
    | n + 1 => purs n vs
  | _, .ref _ => false
def purs : Nat → List Vl → Bool
  | _, [] => true
  | n, v :: vs => pur n v && purs n vs
end
mutual
theorem toD_pur (μ : Mem) : ∀ (v : Vl) (n : Nat), pur n v = true → toD μ n v = some (dat v) ∧ (dat v).canLay0 = true ∧ (dat v).depth ≤ n
  | .none, n, _ => by cases n <;> exact ⟨rfl, rfl, Nat.zero_le _⟩
  | .bool _, n, _ => by cases n <;> exact ⟨rfl, rfl, Nat.zero_le _⟩
  | .int _, n, _ => by cases n <;> exact ⟨rfl, rfl, Nat.zero_le _⟩
  | .str s, n, h => by
    simp only [pur] at h
    cases n <;> exact ⟨rfl, h, Nat.zero_le _⟩
  | .tup vs, 0, h => by simp [pur] at h
  | .tup vs, n + 1, h => by
    simp only [pur] at h
    obtain ⟨h1, h2, h3⟩ := toDs_pur μ vs n h
    refine ⟨?_, h2, ?_⟩
    · simp only [toD, h1, Option.map_some, dat]
    · show PyData.depthAll (dats vs) + 1 ≤ n + 1
      omega
  | .ref _, n, h => by simp [pur] at h
theorem toDs_pur (μ : Mem) : ∀ (vs : List Vl) (n : Nat), purs n vs = true → optAll (toD μ n) vs = some (dats vs) ∧ PyData.canLayAll0 (dats vs) = true ∧ PyData.depthAll (dats vs) ≤ n
  | [], n, _ => ⟨rfl, rfl, Nat.zero_le _⟩
  | v :: vs, n, h => by
    simp only [purs, Bool.and_eq_true] at h
    obtain ⟨a1, a2, a3⟩ := toD_pur μ v n h.1
    obtain ⟨b1, b2, b3⟩ := toDs_pur μ vs n h.2
    refine ⟨by simp only [optAll, a1, b1, dats], ?_, ?_⟩
    · show (PyData.canLay0 (dat v) && PyData.canLayAll0 (dats vs)) = true
      rw [a2, b2]; rfl
    · show max (dat v).depth (PyData.depthAll (dats vs)) ≤ n
      omega
end
/-- == of values without lists -/
def eqP (x y : Vl) : Bool := PyData.eqv (dat x) (dat y)
theorem eqV_str {μ : Mem} {a b : Str} : eqV μ (.str a) (.str b) = some (decide (a = b)) := rfl
theorem strs2_eq {x y : Vl} {b : Bool} (h : strs2 x y = some b) : b = eqP x y := by
  unfold strs2 at h
  split at h
  · cases h
    unfold eqP
    rw [Bool.eq_iff_iff]
    simp [dat, PyData.eqv]
  · cases h
theorem nilT_eq {x y : Vl} {b : Bool} (h : nilT x y = some b) : b = eqP x y := by
  unfold nilT at h
  split at h
  · rename_i vs
    cases h
    cases vs <;> rfl
  · cases h
theorem eqV_nil {μ : Mem} {vs : List Vl} : eqV μ (.tup vs) (.tup []) = some vs.isEmpty := rfl
theorem eqV_pur {μ : Mem} {x y : Vl} (hx : pur 60 x = true) (hy : pur 60 y = true) : eqV μ x y = some (eqP x y) := by
  obtain ⟨a1, a2, a3⟩ := toD_pur μ x 60 hx
  obtain ⟨b1, b2, b3⟩ := toD_pur μ y 60 hy
  unfold eqV
  cases h2 : strs2 x y with
  | some b => rw [strs2_eq h2]
  | none =>
  cases h3 : nilT x y with
  | some b => rw [nilT_eq h3]
  | none =>
  rw [a1, b1]
  have ha : SeqAt.shaped (dat x) = true := by
    unfold SeqAt.shaped
    rw [a2, Bool.true_and, decide_eq_true_eq]
    omega
  have hb : SeqAt.shaped (dat y) = true := by
    unfold SeqAt.shaped
    rw [b2, Bool.true_and, decide_eq_true_eq]
    omega
  simp only [ha, hb, Bool.and_true, if_true, eqP]
mutual
/-- .. and no truth values within: == is equality -/
def nob : Vl → Bool
  | .bool _ => false
  | .tup vs => nobs vs
  | .ref _ => false
  | _ => true
def nobs : List Vl → Bool
  | [] => true
  | v :: vs => nob v && nobs vs
end
mutual
theorem eqP_iff : ∀ (x y : Vl), nob x = true → nob y = true → (PyData.eqv (dat x) (dat y) = true ↔ x = y)
  | .none, y, _, hy => by cases y <;> simp_all [dat, PyData.eqv, nob]
  | .bool _, y, hx, _ => by simp [nob] at hx
  | .int i, y, _, hy => by cases y <;> simp_all [dat, PyData.eqv, nob]
  | .str s, y, _, hy => by cases y <;> simp_all [dat, PyData.eqv, nob]
  | .tup vs, y, hx, hy => by
    cases y with
    | tup ws =>
      simp only [nob] at hx hy
      simp only [dat, PyData.eqv, Vl.tup.injEq]
      exact eqPs_iff vs ws hx hy
    | _ => simp_all [dat, PyData.eqv, nob]
  | .ref _, y, hx, _ => by simp [nob] at hx
theorem eqPs_iff : ∀ (vs ws : List Vl), nobs vs = true → nobs ws = true → (PyData.eqvAll (dats vs) (dats ws) = true ↔ vs = ws)
  | [], [], _, _ => by simp [dats, PyData.eqvAll]
  | [], _ :: _, _, _ => by simp [dats, PyData.eqvAll]
  | _ :: _, [], _, _ => by simp [dats, PyData.eqvAll]
  | v :: vs, w :: ws, hx, hy => by
    simp only [nobs, Bool.and_eq_true] at hx hy
    simp only [dats, PyData.eqvAll, Bool.and_eq_true, eqP_iff v w hx.1 hy.1, eqPs_iff vs ws hx.2 hy.2, List.cons.injEq]
end
theorem eqV_int {μ : Mem} {a b : Int} : eqV μ (.int a) (.int b) = some (decide (a = b)) := by
  rw [eqV_pur (by rfl) (by rfl)]
  congr 1
theorem eqV_nob {μ : Mem} {x y : Vl} (hx : pur 60 x = true) (hy : pur 60 y = true) (nx : nob x = true) (ny : nob y = true) {b : Bool} (hb : b = true ↔ x = y) : eqV μ x y = some b := by
  rw [eqV_pur hx hy]
  congr 1
  rw [Bool.eq_iff_iff, hb]
  exact eqP_iff _ _ nx ny

/-! repr: data of numbers, none, truths, tuples -/
mutual
def sm : Vl → Bool
  | .none => true
  | .bool _ => true
  | .int i => decide (i.natAbs.log2 < 1000)
  | .tup vs => sms vs
  | _ => false
def sms : List Vl → Bool
  | [] => true
  | v :: vs => sm v && sms vs
end
/-! how many parts -/
mutual
def wt : Vl → Nat
  | .tup vs => wts vs
  | _ => 0
def wts : List Vl → Nat
  | [] => 0
  | v :: vs => wt v + 1 + wts vs
end
mutual
theorem sm_dat : ∀ v : Vl, sm v = true → (dat v).showable = true ∧ (dat v).hasDict = false ∧ (dat v).leavesShort 1002 = true ∧ (dat v).bulk = wt v
  | .none, _ => ⟨rfl, rfl, rfl, rfl⟩
  | .bool _, _ => ⟨rfl, rfl, rfl, rfl⟩
  | .int i, h => by
    have h := of_decide_eq_true h
    refine ⟨decide_eq_true (by omega), rfl, decide_eq_true ?_, rfl⟩
    have := int_text_length_le (a := i) (k := 1000) (by decide) h
    show (Str.ofString (toString i)).length ≤ 1002
    rw [PySem.ofString_length]
    omega
  | .str _, h => by simp [sm] at h
  | .tup vs, h => by
    obtain ⟨h1, h2, h3, h4⟩ := sms_dat vs (by simpa [sm] using h)
    exact ⟨by simpa [dat, PyData.showable] using h1, by simpa [dat, PyData.hasDict] using h2, by simpa [dat, PyData.leavesShort] using h3, by simpa [dat, PyData.bulk, wt] using h4⟩
  | .ref _, h => by simp [sm] at h
theorem sms_dat : ∀ vs : List Vl, sms vs = true → PyData.showableAll (dats vs) = true ∧ PyData.hasDictAll (dats vs) = false ∧ PyData.leavesShortAll 1002 (dats vs) = true ∧ PyData.bulkAll (dats vs) = wts vs
  | [], _ => ⟨rfl, rfl, rfl, rfl⟩
  | v :: vs, h => by
    simp only [sms, Bool.and_eq_true] at h
    obtain ⟨a1, a2, a3, a4⟩ := sm_dat v h.1
    obtain ⟨b1, b2, b3, b4⟩ := sms_dat vs h.2
    refine ⟨?_, ?_, ?_, ?_⟩ <;> simp [dats, PyData.showableAll, PyData.hasDictAll, PyData.leavesShortAll, PyData.bulkAll, wts, a1, a2, a3, a4, b1, b2, b3, b4]
end
/-- the text of such a thing -/
def shw (v : Vl) : Str := (dat v).shown
theorem rep_tup {μ : Mem} {vs : List Vl} {Q : K1} (hp : pur 40 (.tup vs) = true) (hs : sm (.tup vs) = true) (hw : wt (.tup vs) ≤ 16000) (q : Q (.str (shw (.tup vs))) μ) : x1W .repr μ (.tup vs) Q := by
  obtain ⟨h1, _, h3⟩ := toD_pur μ (.tup vs) 40 hp
  obtain ⟨a1, a2, a3, a4⟩ := sm_dat (.tup vs) hs
  unfold x1W
  simp only [isDisp, h1]
  refine ⟨⟨a1, a2, Nat.le_trans h3 (by decide), ?_⟩, q⟩
  have := PyData.shown_le_bulk 1002 (by decide) _ a3
  rw [a4] at this
  rw [sizeLine_eq]
  omega

theorem gd_fr {S : List Nat} {μ ν : Mem} (f : Fr S μ ν) : ∀ {src : List (Nat × List Vl)}, (∀ p ∈ src, p.1 ∉ S) → gd μ src → gd ν src
  | [], _, _ => trivial
  | p :: r, h, ⟨h1, h2⟩ => ⟨f.lst h1 (h p List.mem_cons_self), gd_fr f (fun q hq => h q (List.mem_cons_of_mem _ hq)) h2⟩
/-- a comprehension whose parts change nothing that stood -/
theorem lcN_map {Φ : FnT} {G : List (Str × Vl)} (hΦ : FLe Φ Φ) {tg : Tg} {c elt : IE} {src : List (Nat × List Vl)} {σ : Sg} {items : List Vl} {μ : Mem} {Q : Mem → Prop} (f : Vl → Option Vl) (hsrc : gd μ src) (hl : items.length ≤ sizeLine)
    (hs : ∀ x ∈ items, ∀ ν, Fr [] μ ν → asgW tg x σ fun σ1 => wE Φ G c σ1 ν (tst fun b ν1 => Fr [] ν ν1 ∧ if b = true then wE Φ G elt σ1 ν1 (fun y ν2 => Fr [] ν1 ν2 ∧ f x = some y) else f x = none))
    (hq : ∀ ν, Fr [] μ ν → mutAt ν μ.length = some (items.filterMap f) → Q ν) : lcN Φ G elt tg c μ.length src σ items (μ ++ [.lst []]) Q := by
  refine lcN_inv hΦ (fun i acc ν => acc = (items.take i).filterMap f ∧ Fr [] μ ν ∧ μ.length < ν.length) (acc := []) mut_new ⟨by simp, Fr.app, by simp⟩ ?_ ?_
  · rintro i x acc ν hx e ⟨rfl, h2, h3⟩
    refine ⟨gd_fr h2 (by simp) hsrc, asgW_mono tg x σ _ _ (fun σ1 h4 => ?_) (hs x (List.mem_of_getElem? hx) ν h2)⟩
    refine wE_le hΦ c σ1 ν _ _ (tst_mono fun b ν1 h5 => ?_) h4
    have ht : items.take (i + 1) = items.take i ++ [x] := by rw [List.take_succ, hx]; rfl
    cases b with
    | true =>
      rw [if_pos rfl] at h5 ⊢
      refine wE_le hΦ elt σ1 ν1 _ _ (fun y ν2 h6 => ?_) h5.2
      have hi : i < items.length := (List.getElem?_eq_some_iff.mp hx).1
      refine ⟨h6.1.mut (h5.1.mut e (by simp)) (by simp), ?_, ?_, ((h2.trans h5.1).trans h6.1).setNew (Nat.le_refl _), ?_⟩
      · exact Nat.lt_of_lt_of_le (Nat.lt_of_le_of_lt (List.length_filterMap_le _ _) (by rw [List.length_take]; omega)) hl
      · rw [ht, List.filterMap_append]
        simp [h6.2]
      · have := h5.1.1; have := h6.1.1; simp; omega
    | false =>
      rw [if_neg (by decide)] at h5 ⊢
      refine ⟨h5.1.mut e (by simp), ?_, h2.trans h5.1, ?_⟩
      · rw [ht, List.filterMap_append]
        simp [h5.2]
      · have := h5.1.1; omega
  · rintro acc ν e ⟨rfl, h2, h3⟩
    rw [List.take_length] at e
    exact ⟨gd_fr h2 (by simp) hsrc, hq ν h2 e⟩
/-- .. of items of a kind of their own -/
theorem lcN_mapA {α : Type} {Φ : FnT} {G : List (Str × Vl)} (hΦ : FLe Φ Φ) {tg : Tg} {c elt : IE} {src : List (Nat × List Vl)} {σ : Sg} {enc : α → Vl} {xs : List α} {μ : Mem} {Q : Mem → Prop} (g : α → Option Vl) (hsrc : gd μ src) (hl : xs.length ≤ sizeLine)
    (hs : ∀ x ∈ xs, ∀ ν, Fr [] μ ν → asgW tg (enc x) σ fun σ1 => wE Φ G c σ1 ν (tst fun b ν1 => Fr [] ν ν1 ∧ if b = true then wE Φ G elt σ1 ν1 (fun y ν2 => Fr [] ν1 ν2 ∧ g x = some y) else g x = none))
    (hq : ∀ ν, Fr [] μ ν → mutAt ν μ.length = some (xs.filterMap g) → Q ν) : lcN Φ G elt tg c μ.length src σ (xs.map enc) (μ ++ [.lst []]) Q := by
  refine lcN_inv hΦ (fun i acc ν => acc = (xs.take i).filterMap g ∧ Fr [] μ ν ∧ μ.length < ν.length) (acc := []) mut_new ⟨by simp, Fr.app, by simp⟩ ?_ ?_
  · rintro i z acc ν hx e ⟨rfl, h2, h3⟩
    rw [List.getElem?_map, Option.map_eq_some_iff] at hx
    obtain ⟨x, hx, rfl⟩ := hx
    refine ⟨gd_fr h2 (by simp) hsrc, asgW_mono tg (enc x) σ _ _ (fun σ1 h4 => ?_) (hs x (List.mem_of_getElem? hx) ν h2)⟩
    refine wE_le hΦ c σ1 ν _ _ (tst_mono fun b ν1 h5 => ?_) h4
    have ht : xs.take (i + 1) = xs.take i ++ [x] := by rw [List.take_succ, hx]; rfl
    cases b with
    | true =>
      rw [if_pos rfl] at h5 ⊢
      refine wE_le hΦ elt σ1 ν1 _ _ (fun y ν2 h6 => ?_) h5.2
      have hi : i < xs.length := (List.getElem?_eq_some_iff.mp hx).1
      refine ⟨h6.1.mut (h5.1.mut e (by simp)) (by simp), ?_, ?_, ((h2.trans h5.1).trans h6.1).setNew (Nat.le_refl _), ?_⟩
      · exact Nat.lt_of_lt_of_le (Nat.lt_of_le_of_lt (List.length_filterMap_le _ _) (by rw [List.length_take]; omega)) hl
      · rw [ht, List.filterMap_append]
        simp [h6.2]
      · have := h5.1.1; have := h6.1.1; simp; omega
    | false =>
      rw [if_neg (by decide)] at h5 ⊢
      refine ⟨h5.1.mut e (by simp), ?_, h2.trans h5.1, ?_⟩
      · rw [ht, List.filterMap_append]
        simp [h5.2]
      · have := h5.1.1; omega
  · rintro acc ν e ⟨rfl, h2, h3⟩
    rw [List.length_map, List.take_length] at e
    exact ⟨gd_fr h2 (by simp) hsrc, hq ν h2 e⟩
section
variable {μ : Mem} {vs ws : List Vl} {o u x : Ob}
theorem set_new : (μ ++ [o]).set μ.length u = μ ++ [u] := by
  rw [List.set_append_right _ _ (Nat.le_refl _), Nat.sub_self]; rfl
theorem mut_new2 : mutAt (μ ++ [.lst vs] ++ [o]) μ.length = some vs := mut_app mut_new
theorem lst_new2 : lstAt (μ ++ [.lst vs] ++ [o]) μ.length = some vs := lst_app lst_new
theorem mut_new3 : mutAt (μ ++ [.lst vs] ++ [o] ++ [u]) μ.length = some vs := mut_app mut_new2
theorem lst_new3 : lstAt (μ ++ [.lst vs] ++ [o] ++ [u]) μ.length = some vs := lst_app lst_new2
end
theorem toD_int (μ : Mem) (n : Nat) (i : Int) : toD μ n (.int i) = some (.int i) := by cases n <;> rfl
theorem toD_ref {μ : Mem} {r : Nat} {vs : List Vl} (n : Nat) (h : lstAt μ r = some vs) : toD μ (n + 1) (.ref r) = (optAll (toD μ n) vs).map PyData.list := by rw [toD, h]
theorem optAll_ints (μ : Mem) (n : Nat) : ∀ ns : List Int, optAll (toD μ n) (ns.map Vl.int) = some (ns.map PyData.int)
  | [] => rfl
  | i :: ns => by simp only [List.map_cons, optAll, toD_int, optAll_ints μ n ns]
theorem canLay_ints : ∀ ns : List Int, PyData.canLayAll0 (ns.map PyData.int) = true
  | [] => rfl
  | n :: ns => by
    show (PyData.canLay0 (.int n) && PyData.canLayAll0 _) = true
    rw [canLay_ints ns]; rfl
theorem depth_ints : ∀ ns : List Int, PyData.depthAll (ns.map PyData.int) = 0
  | [] => rfl
  | n :: ns => by
    show max 0 (PyData.depthAll _) = 0
    rw [depth_ints ns]; rfl
theorem eqv_ints : ∀ ns ms : List Int, PyData.eqvAll (ns.map PyData.int) (ms.map PyData.int) = decide (ns = ms)
  | [], [] => rfl
  | [], _ :: _ => rfl
  | _ :: _, [] => rfl
  | n :: ns, m :: ms => by
    show ((n == m) && PyData.eqvAll _ _) = _
    rw [eqv_ints ns ms]
    simp only [List.cons.injEq, Bool.decide_and]
    rfl
theorem shaped_ints (ns : List Int) : SeqAt.shaped (.list (ns.map PyData.int)) = true := by
  unfold SeqAt.shaped
  have : PyData.depth (.list (ns.map PyData.int)) = 1 := by
    show PyData.depthAll _ + 1 = 1
    rw [depth_ints]
  rw [this]
  show (PyData.canLayAll0 _ && _) = true
  rw [canLay_ints]; rfl
theorem eqV_ints {μ : Mem} {r s : Nat} {ns ms : List Int} (h1 : lstAt μ r = some (ns.map Vl.int)) (h2 : lstAt μ s = some (ms.map Vl.int)) : eqV μ (.ref r) (.ref s) = some (decide (ns = ms)) := by
  unfold eqV
  rw [toD_ref 59 h1, toD_ref 59 h2, optAll_ints, optAll_ints]
  simp only [Option.map_some, shaped_ints, Bool.and_true, if_true]
  show some (PyData.eqvAll _ _) = _
  rw [eqv_ints]
theorem szs : 0 ≤ sizeLine ∧ 1 ≤ sizeLine ∧ 2 ≤ sizeLine ∧ 3 ≤ sizeLine ∧ 4 ≤ sizeLine ∧ 5 ≤ sizeLine ∧ 6 ≤ sizeLine ∧ 7 ≤ sizeLine ∧ 8 ≤ sizeLine ∧ 9 ≤ sizeLine ∧ 10 ≤ sizeLine ∧ 11 ≤ sizeLine ∧ 12 ≤ sizeLine ∧ 13 ≤ sizeLine ∧ 14 ≤ sizeLine ∧ 15 ≤ sizeLine ∧ 16 ≤ sizeLine ∧ 17 ≤ sizeLine ∧ 18 ≤ sizeLine ∧ 19 ≤ sizeLine ∧ 0 < sizeLine ∧ 1 < sizeLine ∧ 2 < sizeLine ∧ 3 < sizeLine ∧ 4 < sizeLine ∧ 5 < sizeLine ∧ 6 < sizeLine ∧ 7 < sizeLine ∧ 8 < sizeLine ∧ 9 < sizeLine ∧ 10 < sizeLine ∧ 11 < sizeLine ∧ 12 < sizeLine ∧ 13 < sizeLine ∧ 14 < sizeLine ∧ 15 < sizeLine ∧ 16 < sizeLine ∧ 17 < sizeLine ∧ 18 < sizeLine ∧ 19 < sizeLine := by decide
/-! dicts in the store -/
section
variable {S : List Nat} {μ ν : Mem} {r : Nat} {kvs : List (Key × Vl)}
theorem dct_lt (h : dctAt μ r = some kvs) : r < μ.length := by rcases dct_at h with e | e <;> exact (List.getElem?_eq_some_iff.mp e).1
theorem at_dctm (h : μ[r]? = some (.dct kvs)) : dctMut μ r = some kvs := by unfold dctMut; rw [h]
theorem at_dct (h : μ[r]? = some (.dct kvs)) : dctAt μ r = some kvs := by unfold dctAt; rw [h]
theorem Fr.dct (a : Fr S μ ν) (h : dctAt μ r = some kvs) (n : r ∉ S) : dctAt ν r = some kvs := by
  have := a.2 r (dct_lt h) n
  unfold dctAt at h ⊢
  rw [this]; exact h
theorem dct_new : dctAt (μ ++ [.dct kvs]) μ.length = some kvs := at_dct (by simp)
theorem dct_set (h : r < μ.length) : dctAt (μ.set r (.dct kvs)) r = some kvs := at_dct (by simp [h])
theorem dct_set_ne {s : Nat} {o : Ob} (h : r ≠ s) : dctAt (μ.set s o) r = dctAt μ r := by unfold dctAt; rw [List.getElem?_set_ne (Ne.symm h)]
theorem dct_lst (h : dctAt μ r = some kvs) : lstAt μ r = none := by rcases dct_at h with e | e <;> (unfold lstAt; rw [e])
theorem dct_mut (h : dctAt μ r = some kvs) : mutAt μ r = none := by rcases dct_at h with e | e <;> (unfold mutAt; rw [e])
theorem Fr.dctm (a : Fr S μ ν) (h : dctMut μ r = some kvs) (n : r ∉ S) : dctMut ν r = some kvs := at_dctm ((a.2 r (List.getElem?_eq_some_iff.mp (dctm_at h)).1 n).trans (dctm_at h))
theorem dctm_new : dctMut (μ ++ [.dct kvs]) μ.length = some kvs := at_dctm (by simp)
theorem dctm_set (h : r < μ.length) : dctMut (μ.set r (.dct kvs)) r = some kvs := at_dctm (by simp [h])
theorem dctm_set_ne {s : Nat} {o : Ob} (h : r ≠ s) : dctMut (μ.set s o) r = dctMut μ r := by unfold dctMut; rw [List.getElem?_set_ne (Ne.symm h)]
end
/-- a dict that says True of whole numbers -/
def dI (ns : List Int) : List (Key × Vl) := ns.map fun i => (Sum.inl i, Vl.bool true)
def addI (ns : List Int) (k : Int) : List Int := if k ∈ ns then ns else ns ++ [k]
theorem dput_dI (ns : List Int) (k : Int) : dput (dI ns) (.inl k) (.bool true) = dI (addI ns k) := by
  have e : ((dI ns).any fun kv => decide (kv.1 = (Sum.inl k : Key))) = decide (k ∈ ns) := by
    unfold dI
    rw [Bool.eq_iff_iff, List.any_map, List.any_eq_true]
    simp
  unfold dput addI
  rw [e]
  by_cases h : k ∈ ns
  · rw [if_pos (by simpa using h), if_pos h]
    unfold dI
    rw [List.map_map]
    refine List.map_congr_left fun i hi => ?_
    simp only [Function.comp]
    split <;> rfl
  · rw [if_neg (by simpa using h), if_neg h]
    unfold dI
    rw [List.map_append]
    rfl
theorem addI_len (ns : List Int) (k : Int) : (addI ns k).length ≤ ns.length + 1 := by
  unfold addI
  split <;> simp
theorem mem_addI {ns : List Int} {k j : Int} : j ∈ addI ns k ↔ j ∈ ns ∨ j = k := by
  unfold addI
  split
  · rename_i h
    constructor
    · exact fun z => .inl z
    · rintro (z | rfl)
      · exact z
      · exact h
  · simp
theorem addI_nodup {ns : List Int} {k : Int} (h : ns.Nodup) : (addI ns k).Nodup := by
  unfold addI
  split
  · exact h
  · rename_i hk
    rw [List.nodup_append]
    exact ⟨h, by simp, fun a ha b hb => by rw [List.mem_singleton.mp hb]; rintro rfl; exact hk ha⟩
theorem dI_len (ns : List Int) : (dI ns).length = ns.length := by unfold dI; simp
theorem dI_keys : ∀ ns : List Int, optAll keyInt ((dI ns).map (·.1)) = some ns
  | [] => rfl
  | n :: ns => by
    have := dI_keys ns
    unfold dI at this ⊢
    simp only [List.map_cons, optAll, keyInt, this]
theorem dget_dI (ns : List Int) (k : Int) : (dget (dI ns) (.inl k)).isSome = decide (k ∈ ns) := by
  induction ns with
  | nil => rfl
  | cons n ns ih =>
    unfold dI dget at *
    rw [List.map_cons, List.find?_cons]
    by_cases h : n = k
    · subst h; simp
    · have : decide ((Sum.inl n : Key) = Sum.inl k) = false := by simpa using h
      rw [this]
      simp only [ih, List.mem_cons]
      have : ¬ k = n := fun z => h z.symm
      simp [this]
/-! the top with a table of texts: the run asks the world one thing -/
def wT (b : Bool) (w : World) : World := { w with params := { w.params with followText := fun s => bif decide (s = "special-get-raises") then b else w.params.followText s } }
theorem wT_eq (w : World) : wT (w.params.followText "special-get-raises") w = w := by
  obtain ⟨d, p⟩ := w
  have e : (fun s => bif decide (s = "special-get-raises") then p.followText "special-get-raises" else p.followText s) = p.followText := by
    funext s
    by_cases h : s = "special-get-raises"
    · simp [h]
    · simp [h]
  unfold wT
  show (⟨d, { p with followText := _ }⟩ : World) = _
  rw [e]
theorem run_T {R : World → Prop} (h1 : ∀ w, R (wT true w)) (h2 : ∀ w, R (wT false w)) (w : World) : R w := by
  have e := wT_eq w
  cases h : w.params.followText "special-get-raises" with
  | true => rw [h] at e; rw [← e]; exact h1 w
  | false => rw [h] at e; rw [← e]; exact h2 w
/-! ### the run's equation by parts: the kernel then needs the memory of one part at a time -/
section
open PySem PySem.W PySem.Calls PySem.Spec PyProof.Rows L2
noncomputable def endR (r : OpenRow) (M : Nat) (w : World) (os : OsState) : Option SharedT := HandSHeadRun.endF (HandSHeadRun.stepQ (HandSHeadRun.denQ HandSHeadRun.tabQ) r.prog w) M r.prog w os
def RunA (r : OpenRow) (M : Nat) (w : World) : Prop := ∀ os, (endR r M w os).map (fun s => HandSHeadRun.looksF r.prog (boot_heap w.params) s.abs) = some true
def RunB (r : OpenRow) (q : Program) (M : Nat) (loose : List PySem.Str) (w : World) : Prop := ∀ os, (endR r M w os).map (fun s => HandSHeadRun.seenQ q loose (importedModules r.prog.main.body) (fun s => xlAt q [] s && recOk r.toRowW.records s) s.abs) = some (openGood q loose)
def RunC (r : OpenRow) (t : Txt) (M : Nat) (w : World) : Prop := ∀ os, (endR r M w os).map (fun s => (t.ob s).1.2.2) = some (t.hk.val w).1.2.2
def RunD (r : OpenRow) (t : Txt) (M : Nat) (w : World) : Prop := ∀ os, (endR r M w os).map (fun s => ((t.ob s).1.1, (t.ob s).1.2.1, (t.ob s).2)) = some ((t.hk.val w).1.1, (t.hk.val w).1.2.1, (t.hk.val w).2)
theorem run_parts {r : OpenRow} {q : Program} {t : Txt} {M : Nat} {loose : List PySem.Str} {w : World} (h1 : RunA r M w) (h2 : RunB r q M loose w) (h3 : RunC r t M w) (h4 : RunD r t M w) :
    HandSHeadRun.RunEq r q t.hk t.ob M loose w := fun os => by
  have e1 := h1 os
  have e2 := h2 os
  have e3 := h3 os
  have e4 := h4 os
  unfold endR at e1 e2 e3 e4
  cases hs : HandSHeadRun.endF (HandSHeadRun.stepQ (HandSHeadRun.denQ HandSHeadRun.tabQ) r.prog w) M r.prog w os with
  | none => rw [hs] at e1; cases e1
  | some s =>
    rw [hs] at e1 e2 e3 e4
    have e1 := Option.some.inj e1
    have e2 := Option.some.inj e2
    have e3 := Option.some.inj e3
    have e4 := Option.some.inj e4
    obtain ⟨e5, e6⟩ := Prod.mk.inj e4
    obtain ⟨e6, e7⟩ := Prod.mk.inj e6
    show some _ = some _
    refine congrArg some (Prod.ext e1 (Prod.ext e2 ?_))
    exact Prod.ext (Prod.ext e5 (Prod.ext e6 e3)) e7
end
end PV

namespace PV
open PySem PySem.Spec PyProof.Rows L2
abbrev pwk : Program := PySem.Challenge.pw_evenstrand_k13_thinnest_thickest
def topS (i : Nat) : Stmt := pwk.main.body.getD i (.Pass ⟨0, 0, 0, 0⟩)
def b_length_of_0 : IB := .cons (.ret (.blt .sum (.cons (.lc [("strong", 1), ("long", 2)] (.var 2) (.tp (.cons (.nm 1) (.cons (.nm 2) .nil))) (.sq (.idx (.var 0) (.cst (.int 1)))) .nop) .nil))) .nil
def d_length_of : Fd := ⟨"length_of", ["wisp"], [], ["wisp", "strong", "long"], b_length_of_0, none⟩
def b_thick_at_4 : IB := .cons (.ret (.var 3)) .nil
def b_thick_at_3 : IB := .cons (.ifs (.cmp .Lt (.var 1) (.var 2)) b_thick_at_4 .nil) .nil
def b_thick_at_2 : IB := .cons (.aug 2 .Add (.var 4)) b_thick_at_3
def b_thick_at_5 : IB := .cons (.ret (.cst (.int 0))) .nil
def b_thick_at_1 : IB := .cons (.fr (.tp (.cons (.nm 3) (.cons (.nm 4) .nil))) (.sq (.idx (.var 0) (.cst (.int 1)))) b_thick_at_2) b_thick_at_5
def b_thick_at_0 : IB := .cons (.asg 2 (.cst (.int 0))) b_thick_at_1
def d_thick_at : Fd := ⟨"thick_at", ["wisp", "k"], [], ["wisp", "k", "begin", "strong", "long"], b_thick_at_0, none⟩
def b_over_at_3 : IB := .cons (.ret (.var 4)) .nil
def b_over_at_4 : IB := .cons (.ret (.blt .min2 (.cons (.var 4) (.cons (.var 3) .nil)))) .nil
def b_over_at_2 : IB := .cons (.ifs (.cmp .Is (.var 3) (.cst .none)) b_over_at_3 .nil) b_over_at_4
def b_over_at_1 : IB := .cons (.asg 4 (.bin .Add (.var 2) (.call "length_of" (.cons (.var 1) .nil)))) b_over_at_2
def b_over_at_0 : IB := .cons (.asgT (.cons (.nm 1) (.cons (.nm 2) (.cons (.nm 3) .nil))) (.var 0)) b_over_at_1
def d_over_at : Fd := ⟨"over_at", ["laid"], [], ["laid", "wisp", "at", "let", "done"], b_over_at_0, none⟩
def b_runs_at_0 : IB := .cons (.ret (.chn .LtE .Lt (.idx (.var 0) (.cst (.int 1))) (.var 1) (.call "over_at" (.cons (.var 0) .nil)))) .nil
def d_runs_at : Fd := ⟨"runs_at", ["laid", "p"], [], ["laid", "p"], b_runs_at_0, none⟩
def b_strong_at_1 : IB := .cons (.ret (.cst (.int 0))) .nil
def b_strong_at_2 : IB := .cons (.ret (.call "thick_at" (.cons (.idx (.var 0) (.cst (.int 0))) (.cons (.bin .Sub (.var 1) (.idx (.var 0) (.cst (.int 1)))) .nil)))) .nil
def b_strong_at_0 : IB := .cons (.ifs (.not (.call "runs_at" (.cons (.var 0) (.cons (.var 1) .nil)))) b_strong_at_1 .nil) b_strong_at_2
def d_strong_at : Fd := ⟨"strong_at", ["laid", "p"], [], ["laid", "p"], b_strong_at_0, none⟩
def b_running_0 : IB := .cons (.ret (.blt .tuple1 (.cons (.lc [("number", 2), ("laid", 3)] (.var 2) (.tp (.cons (.nm 2) (.cons (.nm 3) .nil))) (.enm (.var 0)) (.call "runs_at" (.cons (.var 3) (.cons (.var 1) .nil)))) .nil))) .nil
def d_running : Fd := ⟨"running", ["strand", "p"], [], ["strand", "p", "number", "laid"], b_running_0, none⟩
def b_by_sorts_2 : IB := .cons (.augS (.var 2) (.idx (.idx (.var 3) (.cst (.int 0))) (.cst (.int 0))) .Add (.call "strong_at" (.cons (.var 3) (.cons (.var 1) .nil)))) .nil
def b_by_sorts_3 : IB := .cons (.ret (.tup (.cons (.idx (.var 2) (.cst (.int 0))) (.cons (.idx (.var 2) (.cst (.int 1))) .nil)))) .nil
def b_by_sorts_1 : IB := .cons (.fr (.nm 3) (.sq (.var 0)) b_by_sorts_2) b_by_sorts_3
def b_by_sorts_0 : IB := .cons (.asg 2 (.lst (.cons (.cst (.int 0)) (.cons (.cst (.int 0)) .nil)))) b_by_sorts_1
def d_by_sorts : Fd := ⟨"by_sorts", ["strand", "p"], [], ["strand", "p", "both", "laid"], b_by_sorts_0, none⟩
def b_changes_7 : IB := .cons (.sto (.var 1) (.blt .min2 (.cons (.var 3) (.cons (.var 4) .nil))) (.cst (.bool true))) .nil
def b_changes_6 : IB := .cons (.aug 3 .Add (.var 6)) b_changes_7
def b_changes_5 : IB := .cons (.fr (.tp (.cons (.nm 5) (.cons (.nm 6) .nil))) (.sq (.idx (.idx (.var 2) (.cst (.int 0))) (.cst (.int 1)))) b_changes_6) .nil
def b_changes_4 : IB := .cons (.sto (.var 1) (.var 3) (.cst (.bool true))) b_changes_5
def b_changes_3 : IB := .cons (.asg 4 (.call "over_at" (.cons (.var 2) .nil))) b_changes_4
def b_changes_2 : IB := .cons (.asg 3 (.idx (.var 2) (.cst (.int 1)))) b_changes_3
def b_changes_8 : IB := .cons (.ret (.blt .sorted1 (.cons (.var 1) .nil))) .nil
def b_changes_1 : IB := .cons (.fr (.nm 2) (.sq (.var 0)) b_changes_2) b_changes_8
def b_changes_0 : IB := .cons (.asg 1 .dnew) b_changes_1
def d_changes : Fd := ⟨"changes", ["strand"], [], ["strand", "found", "laid", "place", "last", "strong", "long"], b_changes_0, none⟩
def b_stretches_5 : IB := .cons (.asg 2 (.var 3)) .nil
def b_stretches_4 : IB := .cons (.exp (.mth .append (.var 1) (.cons (.tup (.cons (.var 2) (.cons (.var 3) (.cons (.call "running" (.cons (.var 0) (.cons (.var 2) .nil))) (.cons (.call "by_sorts" (.cons (.var 0) (.cons (.var 2) .nil))) .nil))))) .nil))) b_stretches_5
def b_stretches_3 : IB := .cons (.ifs (.cmp .Gt (.var 3) (.var 2)) b_stretches_4 .nil) .nil
def b_stretches_6 : IB := .cons (.ret (.blt .tuple1 (.cons (.var 1) .nil))) .nil
def b_stretches_2 : IB := .cons (.fr (.nm 3) (.sq (.call "changes" (.cons (.var 0) .nil))) b_stretches_3) b_stretches_6
def b_stretches_1 : IB := .cons (.asg 2 (.cst (.int 0))) b_stretches_2
def b_stretches_0 : IB := .cons (.asg 1 (.lst .nil)) b_stretches_1
def d_stretches : Fd := ⟨"stretches", ["strand"], [], ["strand", "found", "begin", "place"], b_stretches_0, none⟩
def b_cut_pieces_6 : IB := .cons (.asg 4 (.var 10)) .nil
def b_cut_pieces_5 : IB := .cons (.exp (.mth .append (.var 3) (.cons (.tup (.cons (.var 9) (.cons (.var 10) (.cons (.bin .Add (.idx (.var 8) (.cst (.int 0))) (.idx (.var 8) (.cst (.int 1)))) .nil)))) .nil))) b_cut_pieces_6
def b_cut_pieces_4 : IB := .cons (.ifs (.cmp .Lt (.var 9) (.var 10)) b_cut_pieces_5 .nil) .nil
def b_cut_pieces_3 : IB := .cons (.par [9, 10] (.cons (.blt .max2 (.cons (.var 5) (.cons (.var 1) .nil))) (.cons (.blt .min2 (.cons (.var 6) (.cons (.var 2) .nil))) .nil))) b_cut_pieces_4
def b_cut_pieces_8 : IB := .cons (.exp (.mth .append (.var 3) (.cons (.tup (.cons (.var 4) (.cons (.var 2) (.cons (.cst (.int 0)) .nil)))) .nil))) .nil
def b_cut_pieces_9 : IB := .cons (.ret (.var 3)) .nil
def b_cut_pieces_7 : IB := .cons (.ifs (.cmp .Lt (.var 4) (.var 2)) b_cut_pieces_8 .nil) b_cut_pieces_9
def b_cut_pieces_2 : IB := .cons (.fr (.tp (.cons (.nm 5) (.cons (.nm 6) (.cons (.nm 7) (.cons (.nm 8) .nil))))) (.sq (.call "stretches" (.cons (.var 0) .nil))) b_cut_pieces_3) b_cut_pieces_7
def b_cut_pieces_1 : IB := .cons (.asg 4 (.var 1)) b_cut_pieces_2
def b_cut_pieces_0 : IB := .cons (.asg 3 (.lst .nil)) b_cut_pieces_1
def d_cut_pieces : Fd := ⟨"cut_pieces", ["strand", "a", "b"], [], ["strand", "a", "b", "found", "last", "start", "end", "numbers", "sorts", "begin", "until"], b_cut_pieces_0, none⟩
def b_thinnest_1 : IB := .cons (.ret (.tup (.cons (.var 5) (.cons (.var 3) .nil)))) .nil
def b_thinnest_0 : IB := .cons (.asgT (.cons (.nm 3) (.cons (.nm 4) (.cons (.nm 5) .nil))) (.x1 (.minK 1 "thinnest" 2) (.call "cut_pieces" (.cons (.var 0) (.cons (.var 1) (.cons (.var 2) .nil)))))) b_thinnest_1
def d_thinnest : Fd := ⟨"thinnest", ["strand", "a", "b"], [], ["strand", "a", "b", "start", "end", "thickness"], b_thinnest_0, none⟩
def b_thickest_1 : IB := .cons (.ret (.tup (.cons (.var 5) (.cons (.var 3) .nil)))) .nil
def b_thickest_0 : IB := .cons (.asgT (.cons (.nm 3) (.cons (.nm 4) (.cons (.nm 5) .nil))) (.x1 (.maxK 2 "thickest" 2) (.call "cut_pieces" (.cons (.var 0) (.cons (.var 1) (.cons (.var 2) .nil)))))) b_thickest_1
def d_thickest : Fd := ⟨"thickest", ["strand", "a", "b"], [], ["strand", "a", "b", "start", "end", "thickness"], b_thickest_0, none⟩
def b__law_begin_4 : IB := .cons (.exp (.mth .append (.var 2) (.cons (.bin .Mod (.blt .abs (.cons (.var 4) .nil)) (.bin .Mult (.bin .Pow (.cst (.int 10)) (.cst (.int 60))) (.bin .Pow (.cst (.int 10)) (.cst (.int 60))))) .nil))) .nil
def b__law_begin_3 : IB := .cons (.ifs (.cmp .GtE (.blt .abs (.cons (.var 4) .nil)) (.bin .Pow (.cst (.int 10)) (.cst (.int 18)))) b__law_begin_4 .nil) .nil
def b__law_begin_2 : IB := .cons (.asg 1 (.bin .Mod (.bin .Add (.bin .Add (.bin .Mult (.var 1) (.cst (.int 1000003))) (.bin .Mod (.var 4) (.bin .Pow (.cst (.int 10)) (.cst (.int 30))))) (.bin .Mult (.cst (.int 31)) (.var 3))) (.cst (.int 2305843009213693951)))) b__law_begin_3
def b__law_begin_5 : IB := .cons (.ret (.lst (.cons (.var 2) (.cons (.var 1) (.cons (.cst (.int 0)) .nil))))) .nil
def b__law_begin_1 : IB := .cons (.fr (.tp (.cons (.nm 3) (.cons (.nm 4) .nil))) (.enm (.slc (.var 0) .no (.yes (.cst (.int 63))))) b__law_begin_2) b__law_begin_5
def b__law_begin_0 : IB := .cons (.par [1, 2] (.cons (.bin .Add (.blt .len (.cons (.var 0) .nil)) (.cst (.int 7))) (.cons (.lst .nil) .nil))) b__law_begin_1
def d__law_begin : Fd := ⟨"_law_begin", ["_law_script"], [], ["_law_script", "_law_seed", "_law_own", "_law_k", "_law_cell"], b__law_begin_0, none⟩
def b__law_take_1 : IB := .cons (.exp (.mth .popAt (.idx (.var 0) (.cst (.int 0))) (.cons (.cst (.int 0)) .nil))) .nil
def b__law_take_5 : IB := .cons (.ret (.var 2)) .nil
def b__law_take_4 : IB := .cons (.sto (.idx (.var 0) (.cst (.int 0))) (.cst (.int 0)) (.bin .FloorDiv (.idx (.idx (.var 0) (.cst (.int 0))) (.cst (.int 0))) (.var 1))) b__law_take_5
def b__law_take_3 : IB := .cons (.asg 2 (.bin .Mod (.idx (.idx (.var 0) (.cst (.int 0))) (.cst (.int 0))) (.var 1))) b__law_take_4
def b__law_take_9 : IB := .cons (.ret (.bin .Mod (.bin .Add (.bin .FloorDiv (.var 3) (.cst (.int 97))) (.bin .FloorDiv (.var 3) (.cst (.int 1000033)))) (.var 1))) .nil
def b__law_take_8 : IB := .cons (.asg 3 (.bin .Mod (.bin .Mult (.var 3) (.bin .Add (.bin .Mod (.var 3) (.cst (.int 1000003))) (.bin .Mult (.cst (.int 99991)) (.idx (.var 0) (.cst (.int 2)))))) (.cst (.int 2305843009213693907)))) b__law_take_9
def b__law_take_7 : IB := .cons (.asg 3 (.bin .Mod (.bin .Mult (.bin .Add (.bin .Add (.idx (.var 0) (.cst (.int 1))) (.bin .Mult (.bin .Mult (.cst (.int 65537)) (.idx (.var 0) (.cst (.int 2)))) (.idx (.var 0) (.cst (.int 2))))) (.cst (.int 11))) (.cst (.int 48271))) (.cst (.int 2305843009213693921)))) b__law_take_8
def b__law_take_6 : IB := .cons (.sto (.var 0) (.cst (.int 2)) (.bin .Add (.idx (.var 0) (.cst (.int 2))) (.cst (.int 1)))) b__law_take_7
def b__law_take_2 : IB := .cons (.ifs (.cmp .NotEq (.idx (.var 0) (.cst (.int 0))) (.lst .nil)) b__law_take_3 .nil) b__law_take_6
def b__law_take_0 : IB := .cons (.whl (.and (.cmp .NotEq (.idx (.var 0) (.cst (.int 0))) (.lst .nil)) (.cmp .Eq (.idx (.idx (.var 0) (.cst (.int 0))) (.cst (.int 0))) (.cst (.int 0)))) b__law_take_1) b__law_take_2
def d__law_take : Fd := ⟨"_law_take", ["_law_pot", "_law_many"], [], ["_law_pot", "_law_many", "_law_digit", "_law_mixed"], b__law_take_0, none⟩
def b__law_of_0 : IB := .cons (.ret (.idx (.var 1) (.call "_law_take" (.cons (.var 0) (.cons (.blt .len (.cons (.var 1) .nil)) .nil))))) .nil
def d__law_of : Fd := ⟨"_law_of", ["_law_pot", "_law_some"], [], ["_law_pot", "_law_some"], b__law_of_0, none⟩
def b__law_one_wisp_3 : IB := .cons (.exp (.mth .insert (.var 4) (.cons (.cst (.int 0)) (.cons (.tup (.cons (.var 5) (.cons (.bin .Add (.bin .Mult (.var 2) (.bin .Add (.cst (.int 1)) (.call "_law_take" (.cons (.var 0) (.cons (.cst (.int 5)) .nil))))) (.bin .Mult (.call "_law_take" (.cons (.var 0) (.cons (.cst (.int 2)) .nil))) (.blt .int1 (.cons (.cmp .Gt (.var 2) (.cst (.int 1))) .nil)))) .nil))) .nil)))) .nil
def b__law_one_wisp_2 : IB := .cons (.asg 5 (.bin .Add (.bin .Add (.var 5) (.bin .Mult (.var 1) (.bin .Add (.cst (.int 1)) (.call "_law_take" (.cons (.var 0) (.cons (.cst (.int 5)) .nil)))))) (.bin .Mult (.call "_law_take" (.cons (.var 0) (.cons (.cst (.int 2)) .nil))) (.blt .int1 (.cons (.cmp .Gt (.var 1) (.cst (.int 1))) .nil))))) b__law_one_wisp_3
def b__law_one_wisp_4 : IB := .cons (.ret (.tup (.cons (.call "_law_take" (.cons (.var 0) (.cons (.cst (.int 2)) .nil))) (.cons (.blt .tuple1 (.cons (.var 4) .nil)) .nil)))) .nil
def b__law_one_wisp_1 : IB := .cons (.fr (.nm 6) (.rng1 (.call "_law_of" (.cons (.var 0) (.cons (.lst (.cons (.cst (.int 1)) (.cons (.cst (.int 2)) (.cons (.bin .Add (.cst (.int 1)) (.call "_law_take" (.cons (.var 0) (.cons (.var 3) .nil)))) (.cons (.var 3) .nil))))) .nil)))) b__law_one_wisp_2) b__law_one_wisp_4
def b__law_one_wisp_0 : IB := .cons (.par [4, 5] (.cons (.lst .nil) (.cons (.cst (.int 0)) .nil))) b__law_one_wisp_1
def d__law_one_wisp : Fd := ⟨"_law_one_wisp", ["_law_pot", "_law_unit", "_law_span", "_law_most"], [], ["_law_pot", "_law_unit", "_law_span", "_law_most", "_law_steps", "_law_size", "_law_k"], b__law_one_wisp_0, none⟩
def b__law_laid_ones_5 : IB := .cons (.exp (.mth .append (.var 5) (.cons (.tup (.cons (.var 7) (.cons (.var 8) (.cons (.call "_law_of" (.cons (.var 0) (.cons (.lst (.cons (.cst .none) (.cons (.cst .none) (.cons (.var 9) .nil)))) .nil))) .nil)))) .nil))) .nil
def b__law_laid_ones_4 : IB := .cons (.asg 9 (.bin .Add (.bin .Add (.var 8) (.bin .Mult (.var 4) (.call "_law_take" (.cons (.var 0) (.cons (.cst (.int 14)) .nil))))) (.cst (.int 1)))) b__law_laid_ones_5
def b__law_laid_ones_3 : IB := .cons (.par [7, 8] (.cons (.call "_law_one_wisp" (.cons (.var 0) (.cons (.var 3) (.cons (.var 4) (.cons (.var 2) .nil))))) (.cons (.bin .Add (.bin .Mult (.var 4) (.call "_law_take" (.cons (.var 0) (.cons (.cst (.int 12)) .nil)))) (.bin .Mult (.call "_law_take" (.cons (.var 0) (.cons (.cst (.int 2)) .nil))) (.blt .int1 (.cons (.cmp .Gt (.var 4) (.cst (.int 1))) .nil)))) .nil))) b__law_laid_ones_4
def b__law_laid_ones_6 : IB := .cons (.ret (.blt .tuple1 (.cons (.var 5) .nil))) .nil
def b__law_laid_ones_2 : IB := .cons (.fr (.nm 6) (.rng1 (.var 1)) b__law_laid_ones_3) b__law_laid_ones_6
def b__law_laid_ones_1 : IB := .cons (.asg 5 (.lst .nil)) b__law_laid_ones_2
def b__law_laid_ones_0 : IB := .cons (.par [3, 4] (.cons (.call "_law_of" (.cons (.var 0) (.cons (.lst (.cons (.cst (.int 1)) (.cons (.cst (.int 1)) (.cons (.bin .Add (.bin .Pow (.cst (.int 10)) (.cst (.int 37))) (.cst (.int 7))) .nil)))) .nil))) (.cons (.call "_law_of" (.cons (.var 0) (.cons (.lst (.cons (.cst (.int 1)) (.cons (.cst (.int 1)) (.cons (.bin .Add (.bin .Pow (.cst (.int 10)) (.cst (.int 37))) (.cst (.int 1))) .nil)))) .nil))) .nil))) b__law_laid_ones_1
def d__law_laid_ones : Fd := ⟨"_law_laid_ones", ["_law_pot", "_law_many", "_law_most"], [], ["_law_pot", "_law_many", "_law_most", "_law_unit", "_law_span", "_law_found", "_law_k", "_law_wisp", "_law_at", "_law_let"], b__law_laid_ones_0, none⟩
def b__law_runs_so_3 : IB := .cons (.ret (.cst (.int 0))) .nil
def b__law_runs_so_6 : IB := .cons (.ret (.var 6)) .nil
def b__law_runs_so_7 : IB := .cons (.asg 5 (.bin .Sub (.var 5) (.var 7))) .nil
def b__law_runs_so_5 : IB := .cons (.ifs (.cmp .Lt (.var 5) (.var 7)) b__law_runs_so_6 .nil) b__law_runs_so_7
def b__law_runs_so_8 : IB := .cons (.ret (.cst (.int 0))) .nil
def b__law_runs_so_4 : IB := .cons (.fr (.tp (.cons (.nm 6) (.cons (.nm 7) .nil))) (.sq (.idx (.var 2) (.cst (.int 1)))) b__law_runs_so_5) b__law_runs_so_8
def b__law_runs_so_2 : IB := .cons (.ifs (.or (.cmp .Lt (.var 5) (.cst (.int 0))) (.and (.cmp .IsNot (.var 4) (.cst .none)) (.cmp .GtE (.var 1) (.var 4)))) b__law_runs_so_3 .nil) b__law_runs_so_4
def b__law_runs_so_1 : IB := .cons (.asg 5 (.bin .Sub (.var 1) (.var 3))) b__law_runs_so_2
def b__law_runs_so_0 : IB := .cons (.asgT (.cons (.nm 2) (.cons (.nm 3) (.cons (.nm 4) .nil))) (.var 0)) b__law_runs_so_1
def d__law_runs_so : Fd := ⟨"_law_runs_so", ["_law_laid", "_law_p"], [], ["_law_laid", "_law_p", "_law_wisp", "_law_at", "_law_let", "_law_age", "_law_size", "_law_many"], b__law_runs_so_0, none⟩
def b__law_sum_at_0 : IB := .cons (.ret (.blt .sum (.cons (.lc [("_law_laid", 2)] (.call "_law_runs_so" (.cons (.var 2) (.cons (.var 1) .nil))) (.nm 2) (.sq (.var 0)) .nop) .nil))) .nil
def d__law_sum_at : Fd := ⟨"_law_sum_at", ["_law_strand", "_law_p"], [], ["_law_strand", "_law_p", "_law_laid"], b__law_sum_at_0, none⟩
def b__law_edges_5 : IB := .cons (.exp (.mth .append (.var 1) (.cons (.var 3) .nil))) .nil
def b__law_edges_4 : IB := .cons (.asg 3 (.bin .Add (.var 3) (.var 6))) b__law_edges_5
def b__law_edges_3 : IB := .cons (.fr (.tp (.cons (.nm 5) (.cons (.nm 6) .nil))) (.sq (.idx (.var 2) (.cst (.int 1)))) b__law_edges_4) .nil
def b__law_edges_2 : IB := .cons (.exp (.mth .extend (.var 1) (.cons (.bin .Add (.lst (.cons (.var 3) .nil)) (.bin .Mult (.lst (.cons (.var 4) .nil)) (.blt .int1 (.cons (.cmp .IsNot (.var 4) (.cst .none)) .nil)))) .nil))) b__law_edges_3
def b__law_edges_6 : IB := .cons (.ret (.x1 .srtSet (.var 1))) .nil
def b__law_edges_1 : IB := .cons (.fr (.tp (.cons (.nm 2) (.cons (.nm 3) (.cons (.nm 4) .nil)))) (.sq (.var 0)) b__law_edges_2) b__law_edges_6
def b__law_edges_0 : IB := .cons (.asg 1 (.lst (.cons (.cst (.int 0)) .nil))) b__law_edges_1
def d__law_edges : Fd := ⟨"_law_edges", ["_law_strand"], [], ["_law_strand", "_law_found", "_law_wisp", "_law_at", "_law_let", "_law_size", "_law_many"], b__law_edges_0, none⟩
def b__law_place_1 : IB := .cons (.ret (.blt .max2 (.cons (.cst (.int 0)) (.cons (.var 2) .nil)))) .nil
def b__law_place_0 : IB := .cons (.asg 2 (.bin .Add (.call "_law_of" (.cons (.var 0) (.cons (.bin .Add (.call "_law_edges" (.cons (.var 1) .nil)) (.lst (.cons (.cst (.int 3)) .nil))) .nil))) (.call "_law_of" (.cons (.var 0) (.cons (.lst (.cons (.cst (.int 0)) (.cons (.cst (.int 0)) (.cons (.cst (.int 1)) (.cons (.neg (.cst (.int 1))) (.cons (.cst (.int 2)) .nil)))))) .nil))))) b__law_place_1
def d__law_place : Fd := ⟨"_law_place", ["_law_pot", "_law_strand"], [], ["_law_pot", "_law_strand", "_law_place_here"], b__law_place_0, none⟩
def b__law_cuts_0 : IB := .cons (.ret (.bin .Add (.bin .Add (.lst (.cons (.var 1) .nil)) (.lc [("_law_place_here", 3)] (.var 3) (.nm 3) (.sq (.call "_law_edges" (.cons (.var 0) .nil))) (.chn .Lt .Lt (.var 1) (.var 3) (.var 2)))) (.lst (.cons (.var 2) .nil)))) .nil
def d__law_cuts : Fd := ⟨"_law_cuts", ["_law_strand", "_law_a", "_law_b"], [], ["_law_strand", "_law_a", "_law_b", "_law_place_here"], b__law_cuts_0, none⟩
def b__law_right_1 : IB := .cons (.ret (.cst (.bool false))) .nil
def b__law_right_4 : IB := .cons (.ret (.cst (.bool false))) .nil
def b__law_right_6 : IB := .cons (.ret (.cst (.bool false))) .nil
def b__law_right_10 : IB := .cons (.ret (.cst (.bool false))) .nil
def b__law_right_9 : IB := .cons (.ifs (.or (.cmp .Lt (.var 8) (.cst (.int 0))) (.and (.cmp .Eq (.var 8) (.cst (.int 0))) (.cmp .Lt (.var 7) (.var 6)))) b__law_right_10 .nil) .nil
def b__law_right_8 : IB := .cons (.asg 8 (.bin .Mult (.bin .Sub (.call "_law_sum_at" (.cons (.var 0) (.cons (.var 7) .nil))) (.var 5)) (.var 4))) b__law_right_9
def b__law_right_11 : IB := .cons (.ret (.cst (.bool true))) .nil
def b__law_right_7 : IB := .cons (.fr (.nm 7) (.sq (.slc (.call "_law_cuts" (.cons (.var 0) (.cons (.var 1) (.cons (.var 2) .nil)))) .no (.yes (.neg (.cst (.int 1)))))) b__law_right_8) b__law_right_11
def b__law_right_5 : IB := .cons (.ifs (.cmp .NotEq (.call "_law_sum_at" (.cons (.var 0) (.cons (.var 6) .nil))) (.var 5)) b__law_right_6 .nil) b__law_right_7
def b__law_right_3 : IB := .cons (.ifs (.or (.blt .isBool (.cons (.var 5) .nil)) (.or (.blt .isBool (.cons (.var 6) .nil)) (.not (.chn .LtE .Lt (.var 1) (.var 6) (.var 2))))) b__law_right_4 .nil) b__law_right_5
def b__law_right_2 : IB := .cons (.asgT (.cons (.nm 5) (.cons (.nm 6) .nil)) (.var 3)) b__law_right_3
def b__law_right_0 : IB := .cons (.ifs (.or (.not (.blt .isTuple (.cons (.var 3) .nil))) (.or (.cmp .NotEq (.blt .len (.cons (.var 3) .nil)) (.cst (.int 2))) (.not (.blt .all1 (.cons (.lc [("_law_one", 9)] (.blt .isInt (.cons (.var 9) .nil)) (.nm 9) (.sq (.var 3)) .nop) .nil))))) b__law_right_1 .nil) b__law_right_2
def d__law_right : Fd := ⟨"_law_right", ["_law_strand", "_law_a", "_law_b", "_law_told", "_law_turned"], [], ["_law_strand", "_law_a", "_law_b", "_law_told", "_law_turned", "_law_thickness", "_law_place_here", "_law_edge", "_law_rest", "_law_one"], b__law_right_0, none⟩
def b_law_8 : IB := .cons (.ret (.cst (.bool false))) .nil
def b_law_10 : IB := .cons (.ret (.cst (.bool false))) .nil
def b_law_9 : IB := .cons (.ifs (.not (.call "_law_right" (.cons (.var 4) (.cons (.var 6) (.cons (.var 7) (.cons (.call "thickest" (.cons (.var 4) (.cons (.var 6) (.cons (.var 7) .nil)))) (.cons (.neg (.cst (.int 1))) .nil))))))) b_law_10 .nil) .nil
def b_law_7 : IB := .cons (.ifs (.not (.call "_law_right" (.cons (.var 4) (.cons (.var 6) (.cons (.var 7) (.cons (.call "thinnest" (.cons (.var 4) (.cons (.var 6) (.cons (.var 7) .nil)))) (.cons (.cst (.int 1)) .nil))))))) b_law_8 .nil) b_law_9
def b_law_6 : IB := .cons (.asg 7 (.blt .max2 (.cons (.bin .Add (.var 6) (.cst (.int 1))) (.cons (.call "_law_place" (.cons (.var 1) (.cons (.var 4) .nil))) .nil)))) b_law_7
def b_law_5 : IB := .cons (.asg 6 (.call "_law_place" (.cons (.var 1) (.cons (.var 4) .nil)))) b_law_6
def b_law_4 : IB := .cons (.fr (.nm 5) (.rng1 (.cst (.int 3))) b_law_5) .nil
def b_law_3 : IB := .cons (.asg 4 (.call "_law_laid_ones" (.cons (.var 1) (.cons (.var 3) (.cons (.ite (.cmp .Eq (.var 2) (.cst (.int 0))) (.cst (.int 2)) (.cst (.int 8))) .nil))))) b_law_4
def b_law_2 : IB := .cons (.asg 3 (.ite (.cmp .Eq (.var 2) (.cst (.int 0))) (.call "_law_of" (.cons (.var 1) (.cons (.lst (.cons (.cst (.int 60)) (.cons (.cst (.int 12)) (.cons (.call "_law_take" (.cons (.var 1) (.cons (.cst (.int 61)) .nil))) .nil)))) .nil))) (.call "_law_take" (.cons (.var 1) (.cons (.cst (.int 9)) .nil))))) b_law_3
def b_law_11 : IB := .cons (.ret (.cst (.bool true))) .nil
def b_law_1 : IB := .cons (.fr (.nm 2) (.rng1 (.bin .Add (.cst (.int 3)) (.blt .min2 (.cons (.cst (.int 4)) (.cons (.blt .len (.cons (.var 0) .nil)) .nil))))) b_law_2) b_law_11
def b_law_0 : IB := .cons (.asg 1 (.call "_law_begin" (.cons (.var 0) .nil))) b_law_1
def d_law : Fd := ⟨"law", ["_law_script"], [], ["_law_script", "_law_pot", "_law_turn", "_law_many", "_law_strand", "_law_again", "_law_a", "_law_b"], b_law_0, none⟩
def txt : Txt := ⟨[(d_length_of, (topS 1)), (d_thick_at, (topS 2)), (d_over_at, (topS 4)), (d_runs_at, (topS 5)), (d_strong_at, (topS 6)), (d_running, (topS 7)), (d_by_sorts, (topS 8)), (d_changes, (topS 9)), (d_stretches, (topS 11)), (d_cut_pieces, (topS 13)), (d_thinnest, (topS 14)), (d_thickest, (topS 15)), (d__law_begin, (topS 17)), (d__law_take, (topS 18)), (d__law_of, (topS 19)), (d__law_one_wisp, (topS 20)), (d__law_laid_ones, (topS 21)), (d__law_runs_so, (topS 22)), (d__law_sum_at, (topS 23)), (d__law_edges, (topS 24)), (d__law_place, (topS 25)), (d__law_cuts, (topS 26)), (d__law_right, (topS 27)), (d_law, (topS 28))], [], ["abs", "all", "bool", "enumerate", "int", "isinstance", "len", "max", "min", "range", "set", "sorted", "sum", "thickest.<locals>", "thinnest.<locals>", "tuple"], [], [], 4, []⟩
end PV
set_option maxHeartbeats 0
namespace PV
open PySem PySem.Spec PyProof.Rows L2
abbrev rowk : PySem.W.OpenRow := PySem.W.OpenLaw.row PySem.Challenge.rw_evenstrand_k13_thinnest_thickest
def loose0 : List Str := ["__name__", "length_of", "thick_at", "over_at", "runs_at", "strong_at", "running", "by_sorts", "changes", "stretches", "cut_pieces", "thinnest", "thickest", "_law_begin", "_law_take", "_law_of", "_law_one_wisp", "_law_laid_ones", "_law_runs_so", "_law_sum_at", "_law_edges", "_law_place", "_law_cuts", "_law_right"]
def looseN : List Str := loose0
theorem runk (w : World) : HandSHeadRun.RunEq rowk (PySem.W.view rowk.prog [28]) txt.hk txt.ob 8000 looseN w := by
  intro os
  kernel_rfl
theorem law_bindA (kV doc pm : Value) (an : Option Addr) (cdv ct : Value) (us : List Value) (hl : us.length = d_law.ps.length) : bindArgs (PySem.W.fnOf d_law.fn d_law.nm (defArgs (topS 28)) (defBody (topS 28)) (defScope (topS 28)) .none kV doc pm an cdv ct) ⟨us, []⟩ = pure (d_law.ps.zip us) := match us, hl with | [_], _ => rfl
end PV
set_option maxHeartbeats 200000
namespace PV
open PySem PySem.Spec PyProof.Rows L2
theorem ck_length_of : chkD txt.F txt.G txt.B txt.Cl txt.At txt.T d_length_of (topS 1) = true := by decide +kernel
theorem bd_length_of : BdOk (d_length_of, (topS 1)) := bd_none rfl fun _ _ _ _ _ _ us hl => match us, hl with | [_], _ => rfl
theorem ow_length_of : ∀ c m, (d_length_of, (topS 1)).1.own = some (c, m) → (d_length_of, (topS 1)).1.nm = mName c m := fun c m h => by cases h
theorem ck_thick_at : chkD txt.F txt.G txt.B txt.Cl txt.At txt.T d_thick_at (topS 2) = true := by decide +kernel
theorem bd_thick_at : BdOk (d_thick_at, (topS 2)) := bd_none rfl fun _ _ _ _ _ _ us hl => match us, hl with | [_, _], _ => rfl
theorem ow_thick_at : ∀ c m, (d_thick_at, (topS 2)).1.own = some (c, m) → (d_thick_at, (topS 2)).1.nm = mName c m := fun c m h => by cases h
theorem ck_over_at : chkD txt.F txt.G txt.B txt.Cl txt.At txt.T d_over_at (topS 4) = true := by decide +kernel
theorem bd_over_at : BdOk (d_over_at, (topS 4)) := bd_none rfl fun _ _ _ _ _ _ us hl => match us, hl with | [_], _ => rfl
theorem ow_over_at : ∀ c m, (d_over_at, (topS 4)).1.own = some (c, m) → (d_over_at, (topS 4)).1.nm = mName c m := fun c m h => by cases h
theorem ck_runs_at : chkD txt.F txt.G txt.B txt.Cl txt.At txt.T d_runs_at (topS 5) = true := by decide +kernel
theorem bd_runs_at : BdOk (d_runs_at, (topS 5)) := bd_none rfl fun _ _ _ _ _ _ us hl => match us, hl with | [_, _], _ => rfl
theorem ow_runs_at : ∀ c m, (d_runs_at, (topS 5)).1.own = some (c, m) → (d_runs_at, (topS 5)).1.nm = mName c m := fun c m h => by cases h
theorem ck_strong_at : chkD txt.F txt.G txt.B txt.Cl txt.At txt.T d_strong_at (topS 6) = true := by decide +kernel
theorem bd_strong_at : BdOk (d_strong_at, (topS 6)) := bd_none rfl fun _ _ _ _ _ _ us hl => match us, hl with | [_, _], _ => rfl
theorem ow_strong_at : ∀ c m, (d_strong_at, (topS 6)).1.own = some (c, m) → (d_strong_at, (topS 6)).1.nm = mName c m := fun c m h => by cases h
theorem ck_running : chkD txt.F txt.G txt.B txt.Cl txt.At txt.T d_running (topS 7) = true := by decide +kernel
theorem bd_running : BdOk (d_running, (topS 7)) := bd_none rfl fun _ _ _ _ _ _ us hl => match us, hl with | [_, _], _ => rfl
theorem ow_running : ∀ c m, (d_running, (topS 7)).1.own = some (c, m) → (d_running, (topS 7)).1.nm = mName c m := fun c m h => by cases h
theorem ck_by_sorts : chkD txt.F txt.G txt.B txt.Cl txt.At txt.T d_by_sorts (topS 8) = true := by decide +kernel
theorem bd_by_sorts : BdOk (d_by_sorts, (topS 8)) := bd_none rfl fun _ _ _ _ _ _ us hl => match us, hl with | [_, _], _ => rfl
theorem ow_by_sorts : ∀ c m, (d_by_sorts, (topS 8)).1.own = some (c, m) → (d_by_sorts, (topS 8)).1.nm = mName c m := fun c m h => by cases h
theorem ck_changes : chkD txt.F txt.G txt.B txt.Cl txt.At txt.T d_changes (topS 9) = true := by decide +kernel
theorem bd_changes : BdOk (d_changes, (topS 9)) := bd_none rfl fun _ _ _ _ _ _ us hl => match us, hl with | [_], _ => rfl
theorem ow_changes : ∀ c m, (d_changes, (topS 9)).1.own = some (c, m) → (d_changes, (topS 9)).1.nm = mName c m := fun c m h => by cases h
theorem ck_stretches : chkD txt.F txt.G txt.B txt.Cl txt.At txt.T d_stretches (topS 11) = true := by decide +kernel
theorem bd_stretches : BdOk (d_stretches, (topS 11)) := bd_none rfl fun _ _ _ _ _ _ us hl => match us, hl with | [_], _ => rfl
theorem ow_stretches : ∀ c m, (d_stretches, (topS 11)).1.own = some (c, m) → (d_stretches, (topS 11)).1.nm = mName c m := fun c m h => by cases h
theorem ck_cut_pieces : chkD txt.F txt.G txt.B txt.Cl txt.At txt.T d_cut_pieces (topS 13) = true := by decide +kernel
theorem bd_cut_pieces : BdOk (d_cut_pieces, (topS 13)) := bd_none rfl fun _ _ _ _ _ _ us hl => match us, hl with | [_, _, _], _ => rfl
theorem ow_cut_pieces : ∀ c m, (d_cut_pieces, (topS 13)).1.own = some (c, m) → (d_cut_pieces, (topS 13)).1.nm = mName c m := fun c m h => by cases h
theorem ck_thinnest : chkD txt.F txt.G txt.B txt.Cl txt.At txt.T d_thinnest (topS 14) = true := by decide +kernel
theorem bd_thinnest : BdOk (d_thinnest, (topS 14)) := bd_none rfl fun _ _ _ _ _ _ us hl => match us, hl with | [_, _, _], _ => rfl
theorem ow_thinnest : ∀ c m, (d_thinnest, (topS 14)).1.own = some (c, m) → (d_thinnest, (topS 14)).1.nm = mName c m := fun c m h => by cases h
theorem ck_thickest : chkD txt.F txt.G txt.B txt.Cl txt.At txt.T d_thickest (topS 15) = true := by decide +kernel
theorem bd_thickest : BdOk (d_thickest, (topS 15)) := bd_none rfl fun _ _ _ _ _ _ us hl => match us, hl with | [_, _, _], _ => rfl
theorem ow_thickest : ∀ c m, (d_thickest, (topS 15)).1.own = some (c, m) → (d_thickest, (topS 15)).1.nm = mName c m := fun c m h => by cases h
theorem ck__law_begin : chkD txt.F txt.G txt.B txt.Cl txt.At txt.T d__law_begin (topS 17) = true := by decide +kernel
theorem bd__law_begin : BdOk (d__law_begin, (topS 17)) := bd_none rfl fun _ _ _ _ _ _ us hl => match us, hl with | [_], _ => rfl
theorem ow__law_begin : ∀ c m, (d__law_begin, (topS 17)).1.own = some (c, m) → (d__law_begin, (topS 17)).1.nm = mName c m := fun c m h => by cases h
theorem ck__law_take : chkD txt.F txt.G txt.B txt.Cl txt.At txt.T d__law_take (topS 18) = true := by decide +kernel
theorem bd__law_take : BdOk (d__law_take, (topS 18)) := bd_none rfl fun _ _ _ _ _ _ us hl => match us, hl with | [_, _], _ => rfl
theorem ow__law_take : ∀ c m, (d__law_take, (topS 18)).1.own = some (c, m) → (d__law_take, (topS 18)).1.nm = mName c m := fun c m h => by cases h
theorem ck__law_of : chkD txt.F txt.G txt.B txt.Cl txt.At txt.T d__law_of (topS 19) = true := by decide +kernel
theorem bd__law_of : BdOk (d__law_of, (topS 19)) := bd_none rfl fun _ _ _ _ _ _ us hl => match us, hl with | [_, _], _ => rfl
theorem ow__law_of : ∀ c m, (d__law_of, (topS 19)).1.own = some (c, m) → (d__law_of, (topS 19)).1.nm = mName c m := fun c m h => by cases h
theorem ck__law_one_wisp : chkD txt.F txt.G txt.B txt.Cl txt.At txt.T d__law_one_wisp (topS 20) = true := by decide +kernel
theorem bd__law_one_wisp : BdOk (d__law_one_wisp, (topS 20)) := bd_none rfl fun _ _ _ _ _ _ us hl => match us, hl with | [_, _, _, _], _ => rfl
theorem ow__law_one_wisp : ∀ c m, (d__law_one_wisp, (topS 20)).1.own = some (c, m) → (d__law_one_wisp, (topS 20)).1.nm = mName c m := fun c m h => by cases h
theorem ck__law_laid_ones : chkD txt.F txt.G txt.B txt.Cl txt.At txt.T d__law_laid_ones (topS 21) = true := by decide +kernel
theorem bd__law_laid_ones : BdOk (d__law_laid_ones, (topS 21)) := bd_none rfl fun _ _ _ _ _ _ us hl => match us, hl with | [_, _, _], _ => rfl
theorem ow__law_laid_ones : ∀ c m, (d__law_laid_ones, (topS 21)).1.own = some (c, m) → (d__law_laid_ones, (topS 21)).1.nm = mName c m := fun c m h => by cases h
theorem ck__law_runs_so : chkD txt.F txt.G txt.B txt.Cl txt.At txt.T d__law_runs_so (topS 22) = true := by decide +kernel
theorem bd__law_runs_so : BdOk (d__law_runs_so, (topS 22)) := bd_none rfl fun _ _ _ _ _ _ us hl => match us, hl with | [_, _], _ => rfl
theorem ow__law_runs_so : ∀ c m, (d__law_runs_so, (topS 22)).1.own = some (c, m) → (d__law_runs_so, (topS 22)).1.nm = mName c m := fun c m h => by cases h
theorem ck__law_sum_at : chkD txt.F txt.G txt.B txt.Cl txt.At txt.T d__law_sum_at (topS 23) = true := by decide +kernel
theorem bd__law_sum_at : BdOk (d__law_sum_at, (topS 23)) := bd_none rfl fun _ _ _ _ _ _ us hl => match us, hl with | [_, _], _ => rfl
theorem ow__law_sum_at : ∀ c m, (d__law_sum_at, (topS 23)).1.own = some (c, m) → (d__law_sum_at, (topS 23)).1.nm = mName c m := fun c m h => by cases h
theorem ck__law_edges : chkD txt.F txt.G txt.B txt.Cl txt.At txt.T d__law_edges (topS 24) = true := by decide +kernel
theorem bd__law_edges : BdOk (d__law_edges, (topS 24)) := bd_none rfl fun _ _ _ _ _ _ us hl => match us, hl with | [_], _ => rfl
theorem ow__law_edges : ∀ c m, (d__law_edges, (topS 24)).1.own = some (c, m) → (d__law_edges, (topS 24)).1.nm = mName c m := fun c m h => by cases h
theorem ck__law_place : chkD txt.F txt.G txt.B txt.Cl txt.At txt.T d__law_place (topS 25) = true := by decide +kernel
theorem bd__law_place : BdOk (d__law_place, (topS 25)) := bd_none rfl fun _ _ _ _ _ _ us hl => match us, hl with | [_, _], _ => rfl
theorem ow__law_place : ∀ c m, (d__law_place, (topS 25)).1.own = some (c, m) → (d__law_place, (topS 25)).1.nm = mName c m := fun c m h => by cases h
theorem ck__law_cuts : chkD txt.F txt.G txt.B txt.Cl txt.At txt.T d__law_cuts (topS 26) = true := by decide +kernel
theorem bd__law_cuts : BdOk (d__law_cuts, (topS 26)) := bd_none rfl fun _ _ _ _ _ _ us hl => match us, hl with | [_, _, _], _ => rfl
theorem ow__law_cuts : ∀ c m, (d__law_cuts, (topS 26)).1.own = some (c, m) → (d__law_cuts, (topS 26)).1.nm = mName c m := fun c m h => by cases h
theorem ck__law_right : chkD txt.F txt.G txt.B txt.Cl txt.At txt.T d__law_right (topS 27) = true := by decide +kernel
theorem bd__law_right : BdOk (d__law_right, (topS 27)) := bd_none rfl fun _ _ _ _ _ _ us hl => match us, hl with | [_, _, _, _, _], _ => rfl
theorem ow__law_right : ∀ c m, (d__law_right, (topS 27)).1.own = some (c, m) → (d__law_right, (topS 27)).1.nm = mName c m := fun c m h => by cases h
theorem ck_law : chkD txt.F txt.G txt.B txt.Cl txt.At txt.T d_law (topS 28) = true := by decide +kernel
theorem bd_law : BdOk (d_law, (topS 28)) := bd_none rfl fun _ _ _ _ _ _ us hl => match us, hl with | [_], _ => rfl
theorem ow_law : ∀ c m, (d_law, (topS 28)).1.own = some (c, m) → (d_law, (topS 28)).1.nm = mName c m := fun c m h => by cases h
theorem cks : ∀ e ∈ txt.E, chkD txt.F txt.G txt.B txt.Cl txt.At txt.T e.1 e.2 = true := List.forall_mem_cons.2 ⟨ck_length_of, List.forall_mem_cons.2 ⟨ck_thick_at, List.forall_mem_cons.2 ⟨ck_over_at, List.forall_mem_cons.2 ⟨ck_runs_at, List.forall_mem_cons.2 ⟨ck_strong_at, List.forall_mem_cons.2 ⟨ck_running, List.forall_mem_cons.2 ⟨ck_by_sorts, List.forall_mem_cons.2 ⟨ck_changes, List.forall_mem_cons.2 ⟨ck_stretches, List.forall_mem_cons.2 ⟨ck_cut_pieces, List.forall_mem_cons.2 ⟨ck_thinnest, List.forall_mem_cons.2 ⟨ck_thickest, List.forall_mem_cons.2 ⟨ck__law_begin, List.forall_mem_cons.2 ⟨ck__law_take, List.forall_mem_cons.2 ⟨ck__law_of, List.forall_mem_cons.2 ⟨ck__law_one_wisp, List.forall_mem_cons.2 ⟨ck__law_laid_ones, List.forall_mem_cons.2 ⟨ck__law_runs_so, List.forall_mem_cons.2 ⟨ck__law_sum_at, List.forall_mem_cons.2 ⟨ck__law_edges, List.forall_mem_cons.2 ⟨ck__law_place, List.forall_mem_cons.2 ⟨ck__law_cuts, List.forall_mem_cons.2 ⟨ck__law_right, List.forall_mem_cons.2 ⟨ck_law, (List.forall_mem_nil _)⟩⟩⟩⟩⟩⟩⟩⟩⟩⟩⟩⟩⟩⟩⟩⟩⟩⟩⟩⟩⟩⟩⟩⟩
theorem ows : ∀ e ∈ txt.E, ∀ c m, e.1.own = some (c, m) → e.1.nm = mName c m := List.forall_mem_cons.2 ⟨ow_length_of, List.forall_mem_cons.2 ⟨ow_thick_at, List.forall_mem_cons.2 ⟨ow_over_at, List.forall_mem_cons.2 ⟨ow_runs_at, List.forall_mem_cons.2 ⟨ow_strong_at, List.forall_mem_cons.2 ⟨ow_running, List.forall_mem_cons.2 ⟨ow_by_sorts, List.forall_mem_cons.2 ⟨ow_changes, List.forall_mem_cons.2 ⟨ow_stretches, List.forall_mem_cons.2 ⟨ow_cut_pieces, List.forall_mem_cons.2 ⟨ow_thinnest, List.forall_mem_cons.2 ⟨ow_thickest, List.forall_mem_cons.2 ⟨ow__law_begin, List.forall_mem_cons.2 ⟨ow__law_take, List.forall_mem_cons.2 ⟨ow__law_of, List.forall_mem_cons.2 ⟨ow__law_one_wisp, List.forall_mem_cons.2 ⟨ow__law_laid_ones, List.forall_mem_cons.2 ⟨ow__law_runs_so, List.forall_mem_cons.2 ⟨ow__law_sum_at, List.forall_mem_cons.2 ⟨ow__law_edges, List.forall_mem_cons.2 ⟨ow__law_place, List.forall_mem_cons.2 ⟨ow__law_cuts, List.forall_mem_cons.2 ⟨ow__law_right, List.forall_mem_cons.2 ⟨ow_law, (List.forall_mem_nil _)⟩⟩⟩⟩⟩⟩⟩⟩⟩⟩⟩⟩⟩⟩⟩⟩⟩⟩⟩⟩⟩⟩⟩⟩
theorem bds : ∀ e ∈ txt.E, BdOk e := List.forall_mem_cons.2 ⟨bd_length_of, List.forall_mem_cons.2 ⟨bd_thick_at, List.forall_mem_cons.2 ⟨bd_over_at, List.forall_mem_cons.2 ⟨bd_runs_at, List.forall_mem_cons.2 ⟨bd_strong_at, List.forall_mem_cons.2 ⟨bd_running, List.forall_mem_cons.2 ⟨bd_by_sorts, List.forall_mem_cons.2 ⟨bd_changes, List.forall_mem_cons.2 ⟨bd_stretches, List.forall_mem_cons.2 ⟨bd_cut_pieces, List.forall_mem_cons.2 ⟨bd_thinnest, List.forall_mem_cons.2 ⟨bd_thickest, List.forall_mem_cons.2 ⟨bd__law_begin, List.forall_mem_cons.2 ⟨bd__law_take, List.forall_mem_cons.2 ⟨bd__law_of, List.forall_mem_cons.2 ⟨bd__law_one_wisp, List.forall_mem_cons.2 ⟨bd__law_laid_ones, List.forall_mem_cons.2 ⟨bd__law_runs_so, List.forall_mem_cons.2 ⟨bd__law_sum_at, List.forall_mem_cons.2 ⟨bd__law_edges, List.forall_mem_cons.2 ⟨bd__law_place, List.forall_mem_cons.2 ⟨bd__law_cuts, List.forall_mem_cons.2 ⟨bd__law_right, List.forall_mem_cons.2 ⟨bd_law, (List.forall_mem_nil _)⟩⟩⟩⟩⟩⟩⟩⟩⟩⟩⟩⟩⟩⟩⟩⟩⟩⟩⟩⟩⟩⟩⟩⟩
theorem nds : (txt.F.map (·.nm)).Nodup := by decide +kernel
theorem p_length_of (k : Nat) (vs : List Vl) (μ : Mem) (Q : K1) : phi txt.F txt.G (k + 1) "length_of" vs μ Q = (vs.length = 1 ∧ wB (phi txt.F txt.G k) txt.G b_length_of_0 ⟨fun _ μ1 => Q .none μ1, Q, fun _ _ => False, fun _ _ => False⟩ (startS 3 vs) μ) := phi_eq nds (d := d_length_of) (by simp [txt, Txt.F]) _ rfl vs μ Q
theorem p_thick_at (k : Nat) (vs : List Vl) (μ : Mem) (Q : K1) : phi txt.F txt.G (k + 1) "thick_at" vs μ Q = (vs.length = 2 ∧ wB (phi txt.F txt.G k) txt.G b_thick_at_0 ⟨fun _ μ1 => Q .none μ1, Q, fun _ _ => False, fun _ _ => False⟩ (startS 5 vs) μ) := phi_eq nds (d := d_thick_at) (by simp [txt, Txt.F]) _ rfl vs μ Q
theorem p_over_at (k : Nat) (vs : List Vl) (μ : Mem) (Q : K1) : phi txt.F txt.G (k + 1) "over_at" vs μ Q = (vs.length = 1 ∧ wB (phi txt.F txt.G k) txt.G b_over_at_0 ⟨fun _ μ1 => Q .none μ1, Q, fun _ _ => False, fun _ _ => False⟩ (startS 5 vs) μ) := phi_eq nds (d := d_over_at) (by simp [txt, Txt.F]) _ rfl vs μ Q
theorem p_runs_at (k : Nat) (vs : List Vl) (μ : Mem) (Q : K1) : phi txt.F txt.G (k + 1) "runs_at" vs μ Q = (vs.length = 2 ∧ wB (phi txt.F txt.G k) txt.G b_runs_at_0 ⟨fun _ μ1 => Q .none μ1, Q, fun _ _ => False, fun _ _ => False⟩ (startS 2 vs) μ) := phi_eq nds (d := d_runs_at) (by simp [txt, Txt.F]) _ rfl vs μ Q
theorem p_strong_at (k : Nat) (vs : List Vl) (μ : Mem) (Q : K1) : phi txt.F txt.G (k + 1) "strong_at" vs μ Q = (vs.length = 2 ∧ wB (phi txt.F txt.G k) txt.G b_strong_at_0 ⟨fun _ μ1 => Q .none μ1, Q, fun _ _ => False, fun _ _ => False⟩ (startS 2 vs) μ) := phi_eq nds (d := d_strong_at) (by simp [txt, Txt.F]) _ rfl vs μ Q
theorem p_running (k : Nat) (vs : List Vl) (μ : Mem) (Q : K1) : phi txt.F txt.G (k + 1) "running" vs μ Q = (vs.length = 2 ∧ wB (phi txt.F txt.G k) txt.G b_running_0 ⟨fun _ μ1 => Q .none μ1, Q, fun _ _ => False, fun _ _ => False⟩ (startS 4 vs) μ) := phi_eq nds (d := d_running) (by simp [txt, Txt.F]) _ rfl vs μ Q
theorem p_by_sorts (k : Nat) (vs : List Vl) (μ : Mem) (Q : K1) : phi txt.F txt.G (k + 1) "by_sorts" vs μ Q = (vs.length = 2 ∧ wB (phi txt.F txt.G k) txt.G b_by_sorts_0 ⟨fun _ μ1 => Q .none μ1, Q, fun _ _ => False, fun _ _ => False⟩ (startS 4 vs) μ) := phi_eq nds (d := d_by_sorts) (by simp [txt, Txt.F]) _ rfl vs μ Q
theorem p_changes (k : Nat) (vs : List Vl) (μ : Mem) (Q : K1) : phi txt.F txt.G (k + 1) "changes" vs μ Q = (vs.length = 1 ∧ wB (phi txt.F txt.G k) txt.G b_changes_0 ⟨fun _ μ1 => Q .none μ1, Q, fun _ _ => False, fun _ _ => False⟩ (startS 7 vs) μ) := phi_eq nds (d := d_changes) (by simp [txt, Txt.F]) _ rfl vs μ Q
theorem p_stretches (k : Nat) (vs : List Vl) (μ : Mem) (Q : K1) : phi txt.F txt.G (k + 1) "stretches" vs μ Q = (vs.length = 1 ∧ wB (phi txt.F txt.G k) txt.G b_stretches_0 ⟨fun _ μ1 => Q .none μ1, Q, fun _ _ => False, fun _ _ => False⟩ (startS 4 vs) μ) := phi_eq nds (d := d_stretches) (by simp [txt, Txt.F]) _ rfl vs μ Q
theorem p_cut_pieces (k : Nat) (vs : List Vl) (μ : Mem) (Q : K1) : phi txt.F txt.G (k + 1) "cut_pieces" vs μ Q = (vs.length = 3 ∧ wB (phi txt.F txt.G k) txt.G b_cut_pieces_0 ⟨fun _ μ1 => Q .none μ1, Q, fun _ _ => False, fun _ _ => False⟩ (startS 11 vs) μ) := phi_eq nds (d := d_cut_pieces) (by simp [txt, Txt.F]) _ rfl vs μ Q
theorem p_thinnest (k : Nat) (vs : List Vl) (μ : Mem) (Q : K1) : phi txt.F txt.G (k + 1) "thinnest" vs μ Q = (vs.length = 3 ∧ wB (phi txt.F txt.G k) txt.G b_thinnest_0 ⟨fun _ μ1 => Q .none μ1, Q, fun _ _ => False, fun _ _ => False⟩ (startS 6 vs) μ) := phi_eq nds (d := d_thinnest) (by simp [txt, Txt.F]) _ rfl vs μ Q
theorem p_thickest (k : Nat) (vs : List Vl) (μ : Mem) (Q : K1) : phi txt.F txt.G (k + 1) "thickest" vs μ Q = (vs.length = 3 ∧ wB (phi txt.F txt.G k) txt.G b_thickest_0 ⟨fun _ μ1 => Q .none μ1, Q, fun _ _ => False, fun _ _ => False⟩ (startS 6 vs) μ) := phi_eq nds (d := d_thickest) (by simp [txt, Txt.F]) _ rfl vs μ Q
theorem p__law_begin (k : Nat) (vs : List Vl) (μ : Mem) (Q : K1) : phi txt.F txt.G (k + 1) "_law_begin" vs μ Q = (vs.length = 1 ∧ wB (phi txt.F txt.G k) txt.G b__law_begin_0 ⟨fun _ μ1 => Q .none μ1, Q, fun _ _ => False, fun _ _ => False⟩ (startS 5 vs) μ) := phi_eq nds (d := d__law_begin) (by simp [txt, Txt.F]) _ rfl vs μ Q
theorem p__law_take (k : Nat) (vs : List Vl) (μ : Mem) (Q : K1) : phi txt.F txt.G (k + 1) "_law_take" vs μ Q = (vs.length = 2 ∧ wB (phi txt.F txt.G k) txt.G b__law_take_0 ⟨fun _ μ1 => Q .none μ1, Q, fun _ _ => False, fun _ _ => False⟩ (startS 4 vs) μ) := phi_eq nds (d := d__law_take) (by simp [txt, Txt.F]) _ rfl vs μ Q
theorem p__law_of (k : Nat) (vs : List Vl) (μ : Mem) (Q : K1) : phi txt.F txt.G (k + 1) "_law_of" vs μ Q = (vs.length = 2 ∧ wB (phi txt.F txt.G k) txt.G b__law_of_0 ⟨fun _ μ1 => Q .none μ1, Q, fun _ _ => False, fun _ _ => False⟩ (startS 2 vs) μ) := phi_eq nds (d := d__law_of) (by simp [txt, Txt.F]) _ rfl vs μ Q
theorem p__law_one_wisp (k : Nat) (vs : List Vl) (μ : Mem) (Q : K1) : phi txt.F txt.G (k + 1) "_law_one_wisp" vs μ Q = (vs.length = 4 ∧ wB (phi txt.F txt.G k) txt.G b__law_one_wisp_0 ⟨fun _ μ1 => Q .none μ1, Q, fun _ _ => False, fun _ _ => False⟩ (startS 7 vs) μ) := phi_eq nds (d := d__law_one_wisp) (by simp [txt, Txt.F]) _ rfl vs μ Q
theorem p__law_laid_ones (k : Nat) (vs : List Vl) (μ : Mem) (Q : K1) : phi txt.F txt.G (k + 1) "_law_laid_ones" vs μ Q = (vs.length = 3 ∧ wB (phi txt.F txt.G k) txt.G b__law_laid_ones_0 ⟨fun _ μ1 => Q .none μ1, Q, fun _ _ => False, fun _ _ => False⟩ (startS 10 vs) μ) := phi_eq nds (d := d__law_laid_ones) (by simp [txt, Txt.F]) _ rfl vs μ Q
theorem p__law_runs_so (k : Nat) (vs : List Vl) (μ : Mem) (Q : K1) : phi txt.F txt.G (k + 1) "_law_runs_so" vs μ Q = (vs.length = 2 ∧ wB (phi txt.F txt.G k) txt.G b__law_runs_so_0 ⟨fun _ μ1 => Q .none μ1, Q, fun _ _ => False, fun _ _ => False⟩ (startS 8 vs) μ) := phi_eq nds (d := d__law_runs_so) (by simp [txt, Txt.F]) _ rfl vs μ Q
theorem p__law_sum_at (k : Nat) (vs : List Vl) (μ : Mem) (Q : K1) : phi txt.F txt.G (k + 1) "_law_sum_at" vs μ Q = (vs.length = 2 ∧ wB (phi txt.F txt.G k) txt.G b__law_sum_at_0 ⟨fun _ μ1 => Q .none μ1, Q, fun _ _ => False, fun _ _ => False⟩ (startS 3 vs) μ) := phi_eq nds (d := d__law_sum_at) (by simp [txt, Txt.F]) _ rfl vs μ Q
theorem p__law_edges (k : Nat) (vs : List Vl) (μ : Mem) (Q : K1) : phi txt.F txt.G (k + 1) "_law_edges" vs μ Q = (vs.length = 1 ∧ wB (phi txt.F txt.G k) txt.G b__law_edges_0 ⟨fun _ μ1 => Q .none μ1, Q, fun _ _ => False, fun _ _ => False⟩ (startS 7 vs) μ) := phi_eq nds (d := d__law_edges) (by simp [txt, Txt.F]) _ rfl vs μ Q
theorem p__law_place (k : Nat) (vs : List Vl) (μ : Mem) (Q : K1) : phi txt.F txt.G (k + 1) "_law_place" vs μ Q = (vs.length = 2 ∧ wB (phi txt.F txt.G k) txt.G b__law_place_0 ⟨fun _ μ1 => Q .none μ1, Q, fun _ _ => False, fun _ _ => False⟩ (startS 3 vs) μ) := phi_eq nds (d := d__law_place) (by simp [txt, Txt.F]) _ rfl vs μ Q
theorem p__law_cuts (k : Nat) (vs : List Vl) (μ : Mem) (Q : K1) : phi txt.F txt.G (k + 1) "_law_cuts" vs μ Q = (vs.length = 3 ∧ wB (phi txt.F txt.G k) txt.G b__law_cuts_0 ⟨fun _ μ1 => Q .none μ1, Q, fun _ _ => False, fun _ _ => False⟩ (startS 4 vs) μ) := phi_eq nds (d := d__law_cuts) (by simp [txt, Txt.F]) _ rfl vs μ Q
theorem p__law_right (k : Nat) (vs : List Vl) (μ : Mem) (Q : K1) : phi txt.F txt.G (k + 1) "_law_right" vs μ Q = (vs.length = 5 ∧ wB (phi txt.F txt.G k) txt.G b__law_right_0 ⟨fun _ μ1 => Q .none μ1, Q, fun _ _ => False, fun _ _ => False⟩ (startS 10 vs) μ) := phi_eq nds (d := d__law_right) (by simp [txt, Txt.F]) _ rfl vs μ Q
theorem p_law (k : Nat) (vs : List Vl) (μ : Mem) (Q : K1) : phi txt.F txt.G (k + 1) "law" vs μ Q = (vs.length = 1 ∧ wB (phi txt.F txt.G k) txt.G b_law_0 ⟨fun _ μ1 => Q .none μ1, Q, fun _ _ => False, fun _ _ => False⟩ (startS 8 vs) μ) := phi_eq nds (d := d_law) (by simp [txt, Txt.F]) _ rfl vs μ Q
end PV

set_option maxHeartbeats 0
section

open PySem PySem.W PySem.Calls PyProof.Rows
theorem PV.end_all (kk : PV.KeptT PV.txt 40 "law") : PySem.Challenge.rw_evenstrand_k13_thinnest_thickest.Holds := by
  w_on; o_law
  refine HandSHeadRun.head_any (r := OpenLaw.row PySem.Challenge.rw_evenstrand_k13_thinnest_thickest) (q := view (OpenLaw.row PySem.Challenge.rw_evenstrand_k13_thinnest_thickest).prog [28]) (H := PV.txt.hk) (ob := PV.txt.ob) (M := 8000) (loose := PV.looseN) (d := HandSHeadRun.topDef (OpenLaw.row PySem.Challenge.rw_evenstrand_k13_thinnest_thickest).prog 28) (kwd := []) PV.txt.ob_eq
    (by kernel_rfl) (fun s => by kernel_rfl) PV.runk (by kernel_rfl) (by kernel_rfl) (by kernel_rfl) (by rfl) (by first | assumption | decide +kernel) (by decide +kernel) ⟨rfl, rfl, rfl, rfl, rfl, by decide +kernel⟩ ?hw ?hc
  case hw => w_witness2
  case hc =>
    exact PV.end_txtT (t := PV.txt) (l := PySem.Challenge.rw_evenstrand_k13_thinnest_thickest) (x := "_law_script") (k := 40) (e := (PV.d_law, PV.topS 28)) rfl (by kernel_rfl) ⟨by decide, by decide, by decide⟩ (by kernel_rfl) (by simp [PV.txt]) rfl rfl rfl PV.law_bindA PV.nds PV.cks PV.bds PV.ows kk

end
set_option maxHeartbeats 200000
local macro_rules
  | `(tactic| simp! only [$ls,*]) => `(tactic| simp (maxSteps := 1000000) only [PV.wB,PV.wS.eq_1,PV.wS.eq_2,PV.wS.eq_3,PV.wS.eq_4,PV.wS.eq_5,PV.wS.eq_6,PV.wS.eq_7,PV.wS.eq_8,PV.wS.eq_9,PV.wS.eq_10,PV.wS.eq_13,PV.wS.eq_14,PV.wS.eq_15,PV.wS.eq_16,PV.wS.eq_18,PV.wS_fr,PV.wS_whl,PV.thD_none,PV.wE.eq_1,PV.wE.eq_2,PV.wE.eq_3,PV.wE.eq_4,PV.wE.eq_5,PV.wE.eq_6,PV.wE.eq_7,PV.wE.eq_8,PV.wE.eq_9,PV.wE.eq_10,PV.wE.eq_11,PV.wE.eq_12,PV.wE.eq_13,PV.wE.eq_14,PV.wE.eq_15,PV.wE.eq_16,PV.wE.eq_17,PV.wE.eq_18,PV.wE.eq_19,PV.wE_lc,PV.wE.eq_21,PV.wE.eq_22,PV.wE.eq_23,PV.wE.eq_24,PV.wE.eq_25,PV.wE.eq_26,PV.wE.eq_27,PV.wE.eq_28,PV.wE.eq_29,PV.wE.eq_30,PV.wE.eq_31,PV.wE.eq_32,PV.wEs,PV.wFs,PV.smW,PV.wDs,PV.dkW,PV.dixW,PV.dstW,PV.dgtW,PV.isDct,PV.dmW,PV.kOf,PV.dnW,PV.inW,PV.dinxW,PV.dsnW,Bool.or_true,Bool.true_or,Bool.false_or,PV.wO,PV.wI,PV.getS,PV.setS,PV.setsS,PV.startS,PV.clrS,PV.clrsS,PV.binW,PV.cmpW,PV.bfW,PV.idxW,PV.slcW,PV.mfW,PV.x1W,PV.getW,PV.augW,PV.asgW,PV.asgsW,PV.unpW,PV.tst,PV.truth,PV.seqOf,PV.isNone,PV.isLst,PV.stoW,List.map_cons,List.map_nil,List.length_cons,List.length_nil,List.replicate,List.cons_append,List.nil_append,List.append_nil,Nat.reduceAdd,Nat.reduceSub,if_true,if_false,decide_eq_true_eq,Nat.zero_add,true_and,Option.isSome_some,Option.isSome_none,Bool.true_eq_false,Bool.false_eq_true,PV.ixs,PV.atIs,PV.eqV_int,PV.isTy,PV.intOf,PV.boolOf,PV.atI_last,List.getElem?_cons_zero,List.getElem?_cons_succ,List.set_cons_zero,List.set_cons_succ,List.set_set,Int.reduceAbs,Nat.reducePow,Int.reduceToNat,Int.reducePow,Int.reduceMul,Int.reduceAdd,Int.reduceSub,Int.reduceNeg,Int.cast_ofNat_Int,Int.reduceEq,eq_self,Int.reduceLT,Int.reduceLE,Nat.reduceLT,Nat.reduceLeDiff,decide_true,decide_false,Bool.not_true,Bool.not_false,and_true,List.length_set,PV.mut_set,PV.lst_set,PV.mut_new,PV.lst_new,PV.mut_new2,PV.lst_new2,PV.mut_new3,PV.lst_new3,PV.set_new,PV.szs,PV.isDisp,$ls,*])
  | `(tactic| simp! only [$ls,*] $l:location) => `(tactic| simp (maxSteps := 1000000) only [PV.wB,PV.wS.eq_1,PV.wS.eq_2,PV.wS.eq_3,PV.wS.eq_4,PV.wS.eq_5,PV.wS.eq_6,PV.wS.eq_7,PV.wS.eq_8,PV.wS.eq_9,PV.wS.eq_10,PV.wS.eq_13,PV.wS.eq_14,PV.wS.eq_15,PV.wS.eq_16,PV.wS.eq_18,PV.wS_fr,PV.wS_whl,PV.thD_none,PV.wE.eq_1,PV.wE.eq_2,PV.wE.eq_3,PV.wE.eq_4,PV.wE.eq_5,PV.wE.eq_6,PV.wE.eq_7,PV.wE.eq_8,PV.wE.eq_9,PV.wE.eq_10,PV.wE.eq_11,PV.wE.eq_12,PV.wE.eq_13,PV.wE.eq_14,PV.wE.eq_15,PV.wE.eq_16,PV.wE.eq_17,PV.wE.eq_18,PV.wE.eq_19,PV.wE_lc,PV.wE.eq_21,PV.wE.eq_22,PV.wE.eq_23,PV.wE.eq_24,PV.wE.eq_25,PV.wE.eq_26,PV.wE.eq_27,PV.wE.eq_28,PV.wE.eq_29,PV.wE.eq_30,PV.wE.eq_31,PV.wE.eq_32,PV.wEs,PV.wFs,PV.smW,PV.wDs,PV.dkW,PV.dixW,PV.dstW,PV.dgtW,PV.isDct,PV.dmW,PV.kOf,PV.dnW,PV.inW,PV.dinxW,PV.dsnW,Bool.or_true,Bool.true_or,Bool.false_or,PV.wO,PV.wI,PV.getS,PV.setS,PV.setsS,PV.startS,PV.clrS,PV.clrsS,PV.binW,PV.cmpW,PV.bfW,PV.idxW,PV.slcW,PV.mfW,PV.x1W,PV.getW,PV.augW,PV.asgW,PV.asgsW,PV.unpW,PV.tst,PV.truth,PV.seqOf,PV.isNone,PV.isLst,PV.stoW,List.map_cons,List.map_nil,List.length_cons,List.length_nil,List.replicate,List.cons_append,List.nil_append,List.append_nil,Nat.reduceAdd,Nat.reduceSub,if_true,if_false,decide_eq_true_eq,Nat.zero_add,true_and,Option.isSome_some,Option.isSome_none,Bool.true_eq_false,Bool.false_eq_true,PV.ixs,PV.atIs,PV.eqV_int,PV.isTy,PV.intOf,PV.boolOf,PV.atI_last,List.getElem?_cons_zero,List.getElem?_cons_succ,List.set_cons_zero,List.set_cons_succ,List.set_set,Int.reduceAbs,Nat.reducePow,Int.reduceToNat,Int.reducePow,Int.reduceMul,Int.reduceAdd,Int.reduceSub,Int.reduceNeg,Int.cast_ofNat_Int,Int.reduceEq,eq_self,Int.reduceLT,Int.reduceLE,Nat.reduceLT,Nat.reduceLeDiff,decide_true,decide_false,Bool.not_true,Bool.not_false,and_true,List.length_set,PV.mut_set,PV.lst_set,PV.mut_new,PV.lst_new,PV.mut_new2,PV.lst_new2,PV.mut_new3,PV.lst_new3,PV.set_new,PV.szs,PV.isDisp,$ls,*] $l:location)

set_option exponentiation.threshold 2000
namespace PV
open PySem PySem.Spec PyProof.Rows L2
/-- what is drawn from: own numbers, a seed, how many were taken -/
def Pot (N p o : Nat) (μ : Mem) : Prop := ∃ (own : List Int) (s c : Int), mutAt μ p = some [.ref o, .int s, .int c] ∧ mutAt μ o = some (own.map Vl.int) ∧ o ≠ p ∧ own.length ≤ 63 ∧ (∀ x ∈ own, 0 ≤ x) ∧ 0 ≤ s ∧ s < 2305843009213693951 ∧ 0 ≤ c ∧ c ≤ N
theorem Pot.mono {N M p o : Nat} {μ : Mem} (h : Pot N p o μ) (l : N ≤ M) : Pot M p o μ := by
  obtain ⟨cs, s, n, h1, h2, h3, h4, h5, h6, h7, h8, h9⟩ := h
  exact ⟨cs, s, n, h1, h2, h3, h4, h5, h6, h7, h8, by omega⟩
theorem Pot.lt {N p o : Nat} {μ : Mem} (h : Pot N p o μ) : p < μ.length ∧ o < μ.length := by
  obtain ⟨cs, s, n, h1, h2, _⟩ := h
  exact ⟨mut_lt h1, mut_lt h2⟩
theorem Pot.fr {N p o : Nat} {S : List Nat} {μ ν : Mem} (h : Pot N p o μ) (f : Fr S μ ν) (n : p ∉ S) (m : o ∉ S) : Pot N p o ν := by
  obtain ⟨cs, s, z, h1, h2, h3⟩ := h
  exact ⟨cs, s, z, f.mut h1 n, f.mut h2 m, h3⟩
theorem s_take {k N p o : Nat} {m : Int} {μ : Mem} {Q : K1} (hN : N ≤ 1000000000) (hm : 0 < m) (hm2 : m ≤ 1000000000000000000000000000000000000000000000000000000000000) (h : Pot N p o μ)
    (q : ∀ v ν, 0 ≤ v → v < m → Fr [p, o] μ ν → Pot (N + 1) p o ν → Q (.int v) ν) : phi txt.F txt.G (k + 1) "_law_take" [.ref p, .int m] μ Q := by
  obtain ⟨own, s, c, h1, h2, h3, h4, h5, h6, h7, h8, h9⟩ := h
  have pe : p ∈ [p, o] := by simp
  have oe : o ∈ [p, o] := by simp
  have hb : Bd 61 s := by unfold Bd; omega
  have hc : Bd 40 (c + 1) := by unfold Bd; omega
  rw [p__law_take]
  refine ⟨rfl, ?_⟩
  have rest : ∀ (own : List Int) (ξ : Mem), own.length ≤ 63 → (∀ x ∈ own, 0 ≤ x) → Fr [p, o] μ ξ → mutAt ξ p = some [.ref o, .int s, .int c] → mutAt ξ o = some (own.map Vl.int) →
      wB (phi txt.F txt.G k) txt.G b__law_take_2 ⟨fun _ μ1 => Q .none μ1, Q, fun _ _ => False, fun _ _ => False⟩ [some (.ref p), some (.int m), none, none] ξ := by
    intro own ξ g1 g2 f e1 e2
    have z : eqV (ξ ++ [Ob.lst []]) (.ref o) (.ref ξ.length) = some (decide (own = [])) := eqV_ints (lst_app (mut_lst e2)) (ms := []) lst_new
    have e3 : mutAt (ξ ++ [Ob.lst []]) p = some [.ref o, .int s, .int c] := mut_app e1
    have e4 : mutAt (ξ ++ [Ob.lst []]) o = some (own.map Vl.int) := mut_app e2
    have f2 : Fr [p, o] μ (ξ ++ [Ob.lst []]) := f.appR
    have l1 := mut_lt e3
    have l2 := mut_lt e4
    simp! only [b__law_take_2, mut_lst e1, z]
    generalize ξ ++ [Ob.lst []] = ζ at e3 e4 f2 l1 l2 ⊢
    cases own with
    | nil =>
      simp! only [b__law_take_6, e3, mut_lst e3, l1]
      have e5 : mutAt (ζ.set p (.lst [.ref o, .int s, .int (c + 1)])) p = some [.ref o, .int s, .int (c + 1)] := mut_set l1
      simp! only [b__law_take_7, b__law_take_8, b__law_take_9, mut_lst e5]
      (repeat ((with_reducible refine And.intro ?_ ?_); focus (first | assumption | omega | (apply Bd.ok; (focus (repeat' with_reducible first | assumption | apply Bd.litN | apply Bd.modN | apply Bd.toInt | apply Bd.add | apply Bd.sub | apply Bd.mul | apply Bd.div | apply Bd.neg)); (focus (repeat' with_reducible first | assumption | apply Bd.litN | apply Bd.modN | apply Bd.toInt | apply Bd.add | apply Bd.sub | apply Bd.mul | apply Bd.div | apply Bd.neg)); decide) | exact divOk_le 1000000000000000000000000000000000000000000000000000000000000 (by omega) (by omega) (by decide) | exact mulOk_le 10000000000000000000000000000000000000000000000000000000000000000000000000000000000000000000000000000000000000000000000000000000000000000000000000000000000000000000000000000000000000000000000000000000000000000000000000000000000000000000000000000000000000000000000000000000000000000000000000000000000000000000000000000000000000000000000000000000000000000000000000000000000000000000000000000000000000000 10000000000000000000000000000000000000000000000000000000000000000000000000000000000000000000000000000000000000000000000000000000000000000000000000000000000000000000000000000000000000000000000000000000000000000000000000000000000000000000000000000000000000000000000000000000000000000000000000000000000000000000000000000000000000000000000000000000000000000000000000000000000000000000000000000000000000000 (by omega) (by omega) (by decide) | decide)))
      exact q _ _ (Int.emod_nonneg _ (by omega)) (Int.emod_lt_of_pos _ hm) (f2.setIn pe) ⟨[], _, _, e5, by rw [mut_set_ne h3]; exact e4, h3, g1, g2, h6, h7, by omega, by omega⟩
    | cons y ys =>
      have y0 := g2 y List.mem_cons_self
      have hnn : decide (y :: ys = ([] : List Int)) = false := by simp
      have ix0 : ixN ((ys.map Vl.int).length + 1) 0 = some 0 := by
        unfold ixN
        rw [if_pos (by decide), if_pos (by omega)]; rfl
      rw [List.map_cons] at e4
      simp! only [hnn, ix0, b__law_take_3, b__law_take_4, b__law_take_5, mut_lst e3, mut_lst e4, e4, l2]
      (repeat ((with_reducible refine And.intro ?_ ?_); focus (first | assumption | omega | (apply Bd.ok; (focus (repeat' with_reducible first | assumption | apply Bd.litN | apply Bd.modN | apply Bd.toInt | apply Bd.add | apply Bd.sub | apply Bd.mul | apply Bd.div | apply Bd.neg)); (focus (repeat' with_reducible first | assumption | apply Bd.litN | apply Bd.modN | apply Bd.toInt | apply Bd.add | apply Bd.sub | apply Bd.mul | apply Bd.div | apply Bd.neg)); decide) | exact divOk_le 1000000000000000000000000000000000000000000000000000000000000 (by omega) (by omega) (by decide) | exact mulOk_le 10000000000000000000000000000000000000000000000000000000000000000000000000000000000000000000000000000000000000000000000000000000000000000000000000000000000000000000000000000000000000000000000000000000000000000000000000000000000000000000000000000000000000000000000000000000000000000000000000000000000000000000000000000000000000000000000000000000000000000000000000000000000000000000000000000000000000000 10000000000000000000000000000000000000000000000000000000000000000000000000000000000000000000000000000000000000000000000000000000000000000000000000000000000000000000000000000000000000000000000000000000000000000000000000000000000000000000000000000000000000000000000000000000000000000000000000000000000000000000000000000000000000000000000000000000000000000000000000000000000000000000000000000000000000000 (by omega) (by omega) (by decide) | decide)))
      have e5 : mutAt (ζ.set o (.lst (.int (y / m) :: ys.map Vl.int))) o = some ((y / m :: ys).map Vl.int) := mut_set l2
      have e6 : mutAt (ζ.set o (.lst (.int (y / m) :: ys.map Vl.int))) p = some [.ref o, .int s, .int c] := by rw [mut_set_ne (Ne.symm h3)]; exact e3
      refine q _ _ (Int.emod_nonneg _ (by omega)) (Int.emod_lt_of_pos _ hm) (f2.setIn oe) ⟨y / m :: ys, _, _, e6, e5, h3, by simpa using g1, fun x hx => ?_, h6, h7, h8, by omega⟩
      rcases List.mem_cons.mp hx with rfl | hx
      · exact Int.ediv_nonneg y0 (by omega)
      · exact g2 x (List.mem_cons_of_mem _ hx)
  simp! only [b__law_take_0]
  refine whN_inv (phi_le _ _ (Nat.le_refl _)) (fun n σ ξ => ∃ own : List Int, own.length = n ∧ σ = [some (.ref p), some (.int m), none, none] ∧ own.length ≤ 63 ∧ (∀ x ∈ own, 0 ≤ x) ∧ Fr [p, o] μ ξ ∧ mutAt ξ p = some [.ref o, .int s, .int c] ∧ mutAt ξ o = some (own.map Vl.int)) own.length ⟨own, rfl, rfl, h4, h5, Fr.refl, h1, h2⟩ ?_
  rintro n σ ξ ⟨own, rfl, rfl, g1, g2, f, e1, e2⟩
  have z : eqV (ξ ++ [Ob.lst []]) (.ref o) (.ref ξ.length) = some (decide (own = [])) := eqV_ints (lst_app (mut_lst e2)) (ms := []) lst_new
  have e3 : mutAt (ξ ++ [Ob.lst []]) p = some [.ref o, .int s, .int c] := mut_app e1
  have e4 : mutAt (ξ ++ [Ob.lst []]) o = some (own.map Vl.int) := mut_app e2
  have f2 : Fr [p, o] μ (ξ ++ [Ob.lst []]) := f.appR
  have l1 := mut_lt e3
  have l2 := mut_lt e4
  simp! only [mut_lst e1, z]
  generalize ξ ++ [Ob.lst []] = ζ at e3 e4 f2 l1 l2 ⊢
  cases own with
  | nil =>
    simp! only [true_and]
    exact rest [] ζ g1 g2 f2 e3 e4
  | cons y ys =>
    rw [List.map_cons] at e4
    have hnn : decide (y :: ys = ([] : List Int)) = false := by simp
    simp! only [hnn, mut_lst e3, mut_lst e4]
    by_cases c0 : y = 0
    · have ix0 : ixN ((ys.map Vl.int).length + 1) 0 = some 0 := by
        unfold ixN
        rw [if_pos (by decide), if_pos (by omega)]; rfl
      simp only [c0, wB, wS.eq_1, wS.eq_2, wS.eq_3, wS.eq_4, wS.eq_5, wS.eq_6, wS.eq_7, wS.eq_8, wS.eq_9, wS.eq_10, wS.eq_13, wS.eq_14, wS.eq_15, wS.eq_16, wS.eq_18, wS_fr, wS_whl, thD_none, wE.eq_1, wE.eq_2, wE.eq_3, wE.eq_4, wE.eq_5, wE.eq_6, wE.eq_7, wE.eq_8, wE.eq_9, wE.eq_10, wE.eq_11, wE.eq_12, wE.eq_13, wE.eq_14, wE.eq_15, wE.eq_16, wE.eq_17, wE.eq_18, wE.eq_19, wE_lc, wE.eq_21, wE.eq_22, wE.eq_23, wE.eq_24, wE.eq_25, wE.eq_26, wE.eq_27, wE.eq_28, wE.eq_29, wE.eq_30, wE.eq_31, wE.eq_32, wEs, wFs, smW, wDs, dkW, dixW, dstW, dgtW, isDct, dmW, kOf, dnW, inW, dinxW, dsnW, Bool.or_true, Bool.true_or, Bool.false_or, wO, wI, getS, setS, setsS, startS, clrS, clrsS, binW, cmpW, bfW, idxW, slcW, mfW, x1W, getW, augW, asgW, asgsW, unpW, tst, truth, seqOf, isNone, isLst, stoW, List.map_cons, List.map_nil, List.length_cons, List.length_nil, List.replicate, List.cons_append, List.nil_append, List.append_nil, Nat.reduceAdd, Nat.reduceSub, if_true, if_false, decide_eq_true_eq, Nat.zero_add, true_and, Option.isSome_some, Option.isSome_none, Bool.true_eq_false, Bool.false_eq_true, ixs, atIs, eqV_int, isTy, intOf, boolOf,  atI_last, List.getElem?_cons_zero, List.getElem?_cons_succ, List.set_cons_zero, List.set_cons_succ, List.set_set, Int.reduceAbs, Nat.reducePow, Int.reduceToNat, Int.reducePow, Int.reduceMul, Int.reduceAdd, Int.reduceSub, Int.reduceNeg, Int.cast_ofNat_Int, Int.reduceEq, eq_self, Int.reduceLT, Int.reduceLE, Nat.reduceLT, Nat.reduceLeDiff, decide_true, decide_false, Bool.not_true, Bool.not_false, and_true, List.length_set, mut_set, lst_set, mut_new, lst_new, mut_new2, lst_new2, mut_new3, lst_new3, set_new, szs, isDisp, b__law_take_1, mut_lst e3, e4, ix0, List.eraseIdx_cons_zero]
      refine ⟨ys.length, by simp, ys, rfl, by simp at g1; omega, fun x hx => g2 x (List.mem_cons_of_mem _ hx), f2.setIn oe, ?_, mut_set l2⟩
      rw [mut_set_ne (Ne.symm h3)]
      exact e3
    · simp only [c0, wB, wS.eq_1, wS.eq_2, wS.eq_3, wS.eq_4, wS.eq_5, wS.eq_6, wS.eq_7, wS.eq_8, wS.eq_9, wS.eq_10, wS.eq_13, wS.eq_14, wS.eq_15, wS.eq_16, wS.eq_18, wS_fr, wS_whl, thD_none, wE.eq_1, wE.eq_2, wE.eq_3, wE.eq_4, wE.eq_5, wE.eq_6, wE.eq_7, wE.eq_8, wE.eq_9, wE.eq_10, wE.eq_11, wE.eq_12, wE.eq_13, wE.eq_14, wE.eq_15, wE.eq_16, wE.eq_17, wE.eq_18, wE.eq_19, wE_lc, wE.eq_21, wE.eq_22, wE.eq_23, wE.eq_24, wE.eq_25, wE.eq_26, wE.eq_27, wE.eq_28, wE.eq_29, wE.eq_30, wE.eq_31, wE.eq_32, wEs, wFs, smW, wDs, dkW, dixW, dstW, dgtW, isDct, dmW, kOf, dnW, inW, dinxW, dsnW, Bool.or_true, Bool.true_or, Bool.false_or, wO, wI, getS, setS, setsS, startS, clrS, clrsS, binW, cmpW, bfW, idxW, slcW, mfW, x1W, getW, augW, asgW, asgsW, unpW, tst, truth, seqOf, isNone, isLst, stoW, List.map_cons, List.map_nil, List.length_cons, List.length_nil, List.replicate, List.cons_append, List.nil_append, List.append_nil, Nat.reduceAdd, Nat.reduceSub, if_true, if_false, decide_eq_true_eq, Nat.zero_add, true_and, Option.isSome_some, Option.isSome_none, Bool.true_eq_false, Bool.false_eq_true, ixs, atIs, eqV_int, isTy, intOf, boolOf,  atI_last, List.getElem?_cons_zero, List.getElem?_cons_succ, List.set_cons_zero, List.set_cons_succ, List.set_set, Int.reduceAbs, Nat.reducePow, Int.reduceToNat, Int.reducePow, Int.reduceMul, Int.reduceAdd, Int.reduceSub, Int.reduceNeg, Int.cast_ofNat_Int, Int.reduceEq, eq_self, Int.reduceLT, Int.reduceLE, Nat.reduceLT, Nat.reduceLeDiff, decide_true, decide_false, Bool.not_true, Bool.not_false, and_true, List.length_set, mut_set, lst_set, mut_new, lst_new, mut_new2, lst_new2, mut_new3, lst_new3, set_new, szs, isDisp]
      exact rest (y :: ys) ζ g1 g2 f2 e3 e4
theorem s_of {k N p o r : Nat} {vs : List Vl} {μ : Mem} {Q : K1} (hN : N ≤ 1000000000) (h : Pot N p o μ) (hr : lstAt μ r = some vs) (h0 : 0 < vs.length) (hl : vs.length ≤ 100000) (hrp : r ≠ p) (hro : r ≠ o)
    (q : ∀ (i : Nat) v ν, vs[i]? = some v → Fr [p, o] μ ν → Pot (N + 1) p o ν → Q v ν) : phi txt.F txt.G (k + 2) "_law_of" [.ref p, .ref r] μ Q := by
  rw [p__law_of]
  refine ⟨rfl, ?_⟩
  simp! only [b__law_of_0, hr]
  refine s_take (by omega) (by omega) (by omega) h fun v1 ν1 l1 u1 f1 h1 => ?_
  have e1 : lstAt ν1 r = some vs := f1.lst hr (by simp; exact ⟨hrp, hro⟩)
  obtain ⟨i, rfl⟩ := Int.eq_ofNat_of_zero_le l1
  have hi : i < vs.length := by omega
  simp! only [e1, atI_nat, List.getElem?_eq_getElem hi]
  exact q i _ _ (List.getElem?_eq_getElem hi) f1 h1
theorem enm_at {vs : List Vl} {i : Nat} {z : Vl} (h : (vs.zipIdx.map fun p => Vl.tup [.int p.2, p.1])[i]? = some z) : i < vs.length ∧ ∃ v, vs[i]? = some v ∧ z = .tup [.int i, v] := by
  rw [List.getElem?_map, Option.map_eq_some_iff] at h
  obtain ⟨⟨v, n⟩, h, rfl⟩ := h
  have := List.getElem?_eq_some_iff.mp h
  obtain ⟨h1, h2⟩ := this
  rw [List.getElem_zipIdx] at h2
  have h3 : i < vs.length := by simpa using h1
  cases h2
  exact ⟨h3, _, List.getElem?_eq_getElem h3, by simp⟩
theorem s_begin {k r : Nat} {ns : List Int} {μ : Mem} {Q : K1} (hs : lstAt μ r = some (ns.map Vl.int)) (hl : ns.length ≤ 63)
    (q : ∀ p o ν, Fr [] μ ν → μ.length ≤ p → μ.length ≤ o → Pot 0 p o ν → Q (.ref p) ν) : phi txt.F txt.G (k + 1) "_law_begin" [.ref r] μ Q := by
  rw [p__law_begin]
  refine ⟨rfl, ?_⟩
  have cu : cutL (ns.map Vl.int) none (some 63) = ns.map Vl.int := by
    unfold cutL
    rw [HT.sIx_none, List.drop_zero, Nat.sub_zero]
    rw [show (63 : Int) = ((63 : Nat) : Int) by rfl, HT.sIx_nat, List.take_of_length_le (by rw [List.length_map]; omega)]
  simp! only [b__law_begin_0, hs, List.length_map]
  have hs2 : lstAt (μ ++ [Ob.lst []]) r = some (ns.map Vl.int) := lst_app hs
  simp! only [b__law_begin_1, hs2, cu, srcOf]
  have e0 : mutAt (μ ++ [Ob.lst []] ++ [Ob.lst (ns.map Vl.int)]) μ.length = some [] := by rw [mut_new2]
  have e1 : lstAt (μ ++ [Ob.lst []] ++ [Ob.lst (ns.map Vl.int)]) (μ ++ [Ob.lst []]).length = some (ns.map Vl.int) := lst_new
  have f0 : Fr [] μ (μ ++ [Ob.lst []] ++ [Ob.lst (ns.map Vl.int)]) := Fr.app.trans Fr.app
  generalize μ ++ [Ob.lst []] ++ [Ob.lst (ns.map Vl.int)] = M at e0 e1 f0
  refine frN_inv (phi_le _ _ (Nat.le_refl _)) (fun i σ ν => ∃ (own : List Int) (b : Int) (y3 y4 : Option Vl), σ = [some (.ref r), some (.int b), some (.ref μ.length), y3, y4] ∧ 0 ≤ b ∧ b < 2305843009213693951 ∧ mutAt ν μ.length = some (own.map Vl.int) ∧ own.length ≤ i ∧ (∀ x ∈ own, 0 ≤ x) ∧ lstAt ν (μ ++ [Ob.lst []]).length = some (ns.map Vl.int) ∧ Fr [] μ ν) ⟨[], _, _, _, rfl, by omega, by omega, e0, by simp, by simp, e1, f0⟩ ?_ ?_
  · rintro i x σ ν hx ⟨own, b, y3, y4, rfl, b0, b1, d1, d2, d3, d4, f⟩
    obtain ⟨hi, v, hv, rfl⟩ := enm_at hx
    rw [List.getElem?_map, Option.map_eq_some_iff] at hv
    obtain ⟨z, _, rfl⟩ := hv
    rw [List.length_map] at hi
    refine ⟨⟨d4, trivial⟩, ?_⟩
    have hb : Bd 61 b := by unfold Bd; omega
    have hbi : Bd 40 (i : Int) := by unfold Bd; omega
    have l1 := mut_lt d1
    simp! only [b__law_begin_2]
    (repeat ((with_reducible refine And.intro ?_ ?_); focus (first | assumption | omega | (apply Bd.ok; (focus (repeat' with_reducible first | assumption | apply Bd.litN | apply Bd.modN | apply Bd.toInt | apply Bd.add | apply Bd.sub | apply Bd.mul | apply Bd.div | apply Bd.neg)); (focus (repeat' with_reducible first | assumption | apply Bd.litN | apply Bd.modN | apply Bd.toInt | apply Bd.add | apply Bd.sub | apply Bd.mul | apply Bd.div | apply Bd.neg)); decide) | exact divOk_le 1000000000000000000000000000000000000000000000000000000000000 (by omega) (by omega) (by decide) | exact mulOk_le 10000000000000000000000000000000000000000000000000000000000000000000000000000000000000000000000000000000000000000000000000000000000000000000000000000000000000000000000000000000000000000000000000000000000000000000000000000000000000000000000000000000000000000000000000000000000000000000000000000000000000000000000000000000000000000000000000000000000000000000000000000000000000000000000000000000000000000 10000000000000000000000000000000000000000000000000000000000000000000000000000000000000000000000000000000000000000000000000000000000000000000000000000000000000000000000000000000000000000000000000000000000000000000000000000000000000000000000000000000000000000000000000000000000000000000000000000000000000000000000000000000000000000000000000000000000000000000000000000000000000000000000000000000000000000 (by omega) (by omega) (by decide) | decide)))
    have bs0 : ∀ y : Int, 0 ≤ y % 2305843009213693951 ∧ y % 2305843009213693951 < 2305843009213693951 := fun y => ⟨Int.emod_nonneg _ (by decide), Int.emod_lt_of_pos _ (by decide)⟩
    simp! only [b__law_begin_3]
    by_cases c : 1000000000000000000 ≤ (z.natAbs : Int)
    · simp only [c, wB, wS.eq_1, wS.eq_2, wS.eq_3, wS.eq_4, wS.eq_5, wS.eq_6, wS.eq_7, wS.eq_8, wS.eq_9, wS.eq_10, wS.eq_13, wS.eq_14, wS.eq_15, wS.eq_16, wS.eq_18, wS_fr, wS_whl, thD_none, wE.eq_1, wE.eq_2, wE.eq_3, wE.eq_4, wE.eq_5, wE.eq_6, wE.eq_7, wE.eq_8, wE.eq_9, wE.eq_10, wE.eq_11, wE.eq_12, wE.eq_13, wE.eq_14, wE.eq_15, wE.eq_16, wE.eq_17, wE.eq_18, wE.eq_19, wE_lc, wE.eq_21, wE.eq_22, wE.eq_23, wE.eq_24, wE.eq_25, wE.eq_26, wE.eq_27, wE.eq_28, wE.eq_29, wE.eq_30, wE.eq_31, wE.eq_32, wEs, wFs, smW, wDs, dkW, dixW, dstW, dgtW, isDct, dmW, kOf, dnW, inW, dinxW, dsnW, Bool.or_true, Bool.true_or, Bool.false_or, wO, wI, getS, setS, setsS, startS, clrS, clrsS, binW, cmpW, bfW, idxW, slcW, mfW, x1W, getW, augW, asgW, asgsW, unpW, tst, truth, seqOf, isNone, isLst, stoW, List.map_cons, List.map_nil, List.length_cons, List.length_nil, List.replicate, List.cons_append, List.nil_append, List.append_nil, Nat.reduceAdd, Nat.reduceSub, if_true, if_false, decide_eq_true_eq, Nat.zero_add, true_and, Option.isSome_some, Option.isSome_none, Bool.true_eq_false, Bool.false_eq_true, ixs, atIs, eqV_int, isTy, intOf, boolOf,  atI_last, List.getElem?_cons_zero, List.getElem?_cons_succ, List.set_cons_zero, List.set_cons_succ, List.set_set, Int.reduceAbs, Nat.reducePow, Int.reduceToNat, Int.reducePow, Int.reduceMul, Int.reduceAdd, Int.reduceSub, Int.reduceNeg, Int.cast_ofNat_Int, Int.reduceEq, eq_self, Int.reduceLT, Int.reduceLE, Nat.reduceLT, Nat.reduceLeDiff, decide_true, decide_false, Bool.not_true, Bool.not_false, and_true, List.length_set, mut_set, lst_set, mut_new, lst_new, mut_new2, lst_new2, mut_new3, lst_new3, set_new, szs, isDisp, b__law_begin_4, d1]
      (repeat ((with_reducible refine And.intro ?_ ?_); focus (first | assumption | omega | (apply Bd.ok; (focus (repeat' with_reducible first | assumption | apply Bd.litN | apply Bd.modN | apply Bd.toInt | apply Bd.add | apply Bd.sub | apply Bd.mul | apply Bd.div | apply Bd.neg)); (focus (repeat' with_reducible first | assumption | apply Bd.litN | apply Bd.modN | apply Bd.toInt | apply Bd.add | apply Bd.sub | apply Bd.mul | apply Bd.div | apply Bd.neg)); decide) | exact divOk_le 1000000000000000000000000000000000000000000000000000000000000 (by omega) (by omega) (by decide) | exact mulOk_le 10000000000000000000000000000000000000000000000000000000000000000000000000000000000000000000000000000000000000000000000000000000000000000000000000000000000000000000000000000000000000000000000000000000000000000000000000000000000000000000000000000000000000000000000000000000000000000000000000000000000000000000000000000000000000000000000000000000000000000000000000000000000000000000000000000000000000000 10000000000000000000000000000000000000000000000000000000000000000000000000000000000000000000000000000000000000000000000000000000000000000000000000000000000000000000000000000000000000000000000000000000000000000000000000000000000000000000000000000000000000000000000000000000000000000000000000000000000000000000000000000000000000000000000000000000000000000000000000000000000000000000000000000000000000000 (by omega) (by omega) (by decide) | decide)))
      refine And.intro (by rw [List.length_map]; exact Nat.lt_of_lt_of_le (show _ < 1000 by omega) (by decide)) ?_
      refine ⟨own ++ [(z.natAbs : Int) % 1000000000000000000000000000000000000000000000000000000000000000000000000000000000000000000000000000000000000000000000000], _, _, _, rfl, (bs0 _).1, (bs0 _).2, ?_, by simp; omega, fun x hx => ?_, ?_, f.setNew (Nat.le_refl _)⟩
      · rw [mut_set l1, List.map_append]; rfl
      · rcases List.mem_append.mp hx with hx | hx
        · exact d3 x hx
        · rw [List.mem_singleton.mp hx]
          exact Int.emod_nonneg _ (by decide)
      · rw [lst_set_ne (by simp)]; exact d4
    · simp only [c, wB, wS.eq_1, wS.eq_2, wS.eq_3, wS.eq_4, wS.eq_5, wS.eq_6, wS.eq_7, wS.eq_8, wS.eq_9, wS.eq_10, wS.eq_13, wS.eq_14, wS.eq_15, wS.eq_16, wS.eq_18, wS_fr, wS_whl, thD_none, wE.eq_1, wE.eq_2, wE.eq_3, wE.eq_4, wE.eq_5, wE.eq_6, wE.eq_7, wE.eq_8, wE.eq_9, wE.eq_10, wE.eq_11, wE.eq_12, wE.eq_13, wE.eq_14, wE.eq_15, wE.eq_16, wE.eq_17, wE.eq_18, wE.eq_19, wE_lc, wE.eq_21, wE.eq_22, wE.eq_23, wE.eq_24, wE.eq_25, wE.eq_26, wE.eq_27, wE.eq_28, wE.eq_29, wE.eq_30, wE.eq_31, wE.eq_32, wEs, wFs, smW, wDs, dkW, dixW, dstW, dgtW, isDct, dmW, kOf, dnW, inW, dinxW, dsnW, Bool.or_true, Bool.true_or, Bool.false_or, wO, wI, getS, setS, setsS, startS, clrS, clrsS, binW, cmpW, bfW, idxW, slcW, mfW, x1W, getW, augW, asgW, asgsW, unpW, tst, truth, seqOf, isNone, isLst, stoW, List.map_cons, List.map_nil, List.length_cons, List.length_nil, List.replicate, List.cons_append, List.nil_append, List.append_nil, Nat.reduceAdd, Nat.reduceSub, if_true, if_false, decide_eq_true_eq, Nat.zero_add, true_and, Option.isSome_some, Option.isSome_none, Bool.true_eq_false, Bool.false_eq_true, ixs, atIs, eqV_int, isTy, intOf, boolOf,  atI_last, List.getElem?_cons_zero, List.getElem?_cons_succ, List.set_cons_zero, List.set_cons_succ, List.set_set, Int.reduceAbs, Nat.reducePow, Int.reduceToNat, Int.reducePow, Int.reduceMul, Int.reduceAdd, Int.reduceSub, Int.reduceNeg, Int.cast_ofNat_Int, Int.reduceEq, eq_self, Int.reduceLT, Int.reduceLE, Nat.reduceLT, Nat.reduceLeDiff, decide_true, decide_false, Bool.not_true, Bool.not_false, and_true, List.length_set, mut_set, lst_set, mut_new, lst_new, mut_new2, lst_new2, mut_new3, lst_new3, set_new, szs, isDisp]
      exact ⟨own, _, _, _, rfl, (bs0 _).1, (bs0 _).2, d1, by omega, d3, d4, f⟩
  · rintro σ ν ⟨own, b, y3, y4, rfl, b0, b1, d1, d2, d3, d4, f⟩
    rw [List.length_map, List.length_zipIdx, List.length_map] at d2
    refine ⟨⟨d4, trivial⟩, ?_⟩
    have l1 := mut_lt d1
    simp! only [b__law_begin_5]
    exact q _ μ.length _ (f.trans Fr.app) f.1 (Nat.le_refl _) ⟨own, b, 0, mut_new, mut_app d1, by omega, by omega, d3, b0, b1, by omega, by omega⟩
end PV

set_option exponentiation.threshold 2000
namespace PV
open PySem PySem.Spec PyProof.Rows L2
def stpV (x : Int × Int) : Vl := .tup [.int x.1, .int x.2]
def wspV (o : Int) (ss : List (Int × Int)) : Vl := .tup [.int o, .tup (ss.map stpV)]
/-- the steps of a wisp: some, falling, each part from 1 on, at most A, B -/
structure Wsp (A B : Int) (ss : List (Int × Int)) : Prop where
  ne : ss ≠ []
  len : ss.length ≤ 8
  s1 : ∀ x ∈ ss, 1 ≤ x.1 ∧ x.1 ≤ A
  l1 : ∀ x ∈ ss, 1 ≤ x.2 ∧ x.2 ≤ B
  falls : ss.Pairwise fun x y => y.1 < x.1
/-- what a wisp comes to: places, weight, thickness at a place -/
def longs (ss : List (Int × Int)) : Int := (ss.map fun x => x.2).sum
def weighs (ss : List (Int × Int)) : Int := (ss.map fun x => x.1 * x.2).sum
def thk (b : Int) : List (Int × Int) → Int → Int
  | [], _ => 0
  | (s, l) :: r, k => if k < b + l then s else thk (b + l) r k
theorem optAll_intOf : ∀ ns : List Int, optAll intOf (ns.map Vl.int) = some ns
  | [] => rfl
  | n :: ns => by simp only [List.map_cons, optAll, intOf, optAll_intOf ns]
/-- numbers of both parts of few bits -/
def Few (ss : List (Int × Int)) : Prop := ss.length ≤ 60 ∧ ∀ x ∈ ss, Bd 200 x.1 ∧ Bd 200 x.2
theorem filterMap_stp (g : Int × Int → Int) (f : Vl → Option Vl) (h : ∀ x, f (stpV x) = some (.int (g x))) : ∀ ss : List (Int × Int), (ss.map stpV).filterMap f = (ss.map g).map Vl.int
  | [] => rfl
  | x :: ss => by rw [List.map_cons, List.filterMap_cons, h, filterMap_stp g f h ss]; rfl
theorem s_length_of {k : Nat} {o : Int} {ss : List (Int × Int)} {μ : Mem} {Q : K1} (hf : Few ss) (q : ∀ ν, Fr [] μ ν → Q (.int (longs ss)) ν) : phi txt.F txt.G (k + 1) "length_of" [wspV o ss] μ Q := by
  rw [p_length_of]
  refine ⟨rfl, ?_⟩
  simp! only [wspV, b_length_of_0, srcOf]
  refine lcN_map (phi_le _ _ (Nat.le_refl _)) (fun v => match v with
    | .tup [_, .int l] => some (.int l)
    | _ => none) trivial (by rw [List.length_map]; exact Nat.le_trans hf.1 (by decide)) (fun z hz ν f => ?_) fun ν f e => ?_
  · obtain ⟨x, hx, rfl⟩ := List.mem_map.mp hz
    simp! only [stpV]
    exact ⟨Fr.refl, Fr.refl⟩
  rw [filterMap_stp (fun x => x.2) _ fun x => rfl] at e
  simp! only [mut_lst e, optAll_intOf]
  exact q ν f
theorem s_thick_at {k : Nat} {o n : Int} {ss : List (Int × Int)} {μ : Mem} {Q : K1} (q : Q (.int (thk 0 ss n)) μ) : phi txt.F txt.G (k + 1) "thick_at" [wspV o ss, .int n] μ Q := by
  rw [p_thick_at]
  refine ⟨rfl, ?_⟩
  simp! only [wspV, b_thick_at_0, b_thick_at_1, srcOf]
  refine frN_inv (phi_le _ _ (Nat.le_refl _)) (fun i σ ν => ∃ (b : Int) (y z : Option Vl), σ = [some (.tup [.int o, .tup (ss.map stpV)]), some (.int n), some (.int b), y, z] ∧ thk 0 ss n = thk b (ss.drop i) n ∧ ν = μ) ⟨0, _, _, rfl, by simp, rfl⟩ ?_ ?_
  · rintro i x σ ν hx ⟨b, y, z, rfl, e, rfl⟩
    rw [List.getElem?_map, Option.map_eq_some_iff] at hx
    obtain ⟨⟨s, l⟩, hw, rfl⟩ := hx
    obtain ⟨hi, hw⟩ := List.getElem?_eq_some_iff.mp hw
    rw [List.drop_eq_getElem_cons hi, hw] at e
    refine ⟨trivial, ?_⟩
    simp! only [stpV, b_thick_at_2, b_thick_at_3, b_thick_at_4]
    simp only [thk] at e
    split
    · rename_i h
      rw [if_pos h] at e
      rw [e] at q
      exact q
    · rename_i h
      rw [if_neg h] at e
      exact ⟨_, _, _, rfl, e⟩
  · rintro σ ν ⟨b, y, z, rfl, e, rfl⟩
    refine ⟨trivial, ?_⟩
    rw [List.length_map, List.drop_length] at e
    simp! only [b_thick_at_5]
    rw [show thk 0 ss n = 0 from e] at q
    exact q
/-- a laid wisp: sort, steps, its place, its let -/
structure Laid where
  o : Int
  ss : List (Int × Int)
  at_ : Int
  let_ : Option Int
def Laid.lv (x : Laid) : Vl := match x.let_ with
  | .none => .none
  | .some l => .int l
def Laid.v (x : Laid) : Vl := .tup [wspV x.o x.ss, .int x.at_, x.lv]
/-- the place from which on it is over -/
def Laid.over (x : Laid) : Int := match x.let_ with
  | .none => x.at_ + longs x.ss
  | .some l => min (x.at_ + longs x.ss) l
def Laid.runs (x : Laid) (p : Int) : Bool := decide (x.at_ ≤ p) && decide (p < x.over)
theorem s_over_at {k : Nat} {x : Laid} {μ : Mem} {Q : K1} (hf : Few x.ss) (q : ∀ ν, Fr [] μ ν → Q (.int x.over) ν) : phi txt.F txt.G (k + 2) "over_at" [x.v] μ Q := by
  rw [p_over_at]
  refine ⟨rfl, ?_⟩
  obtain ⟨o, ss, a, l⟩ := x
  cases l with
  | none =>
    simp! only [Laid.v, Laid.lv, b_over_at_0, b_over_at_1]
    refine s_length_of hf fun ν f => ?_
    simp! only [b_over_at_2, b_over_at_3]
    exact q ν f
  | some l =>
    simp! only [Laid.v, Laid.lv, b_over_at_0, b_over_at_1]
    refine s_length_of hf fun ν f => ?_
    simp! only [b_over_at_2, b_over_at_4]
    exact q ν f
theorem s_runs_at {k : Nat} {x : Laid} {p : Int} {μ : Mem} {Q : K1} (hf : Few x.ss) (q : ∀ ν, Fr [] μ ν → Q (.bool (x.runs p)) ν) : phi txt.F txt.G (k + 3) "runs_at" [x.v, .int p] μ Q := by
  rw [p_runs_at]
  refine ⟨rfl, ?_⟩
  have hv : x.v = .tup [wspV x.o x.ss, .int x.at_, x.lv] := rfl
  simp! only [b_runs_at_0]
  rw [hv]
  simp! only [true_and]
  by_cases h : x.at_ ≤ p
  · simp only [h, wB, wS.eq_1, wS.eq_2, wS.eq_3, wS.eq_4, wS.eq_5, wS.eq_6, wS.eq_7, wS.eq_8, wS.eq_9, wS.eq_10, wS.eq_13, wS.eq_14, wS.eq_15, wS.eq_16, wS.eq_18, wS_fr, wS_whl, thD_none, wE.eq_1, wE.eq_2, wE.eq_3, wE.eq_4, wE.eq_5, wE.eq_6, wE.eq_7, wE.eq_8, wE.eq_9, wE.eq_10, wE.eq_11, wE.eq_12, wE.eq_13, wE.eq_14, wE.eq_15, wE.eq_16, wE.eq_17, wE.eq_18, wE.eq_19, wE_lc, wE.eq_21, wE.eq_22, wE.eq_23, wE.eq_24, wE.eq_25, wE.eq_26, wE.eq_27, wE.eq_28, wE.eq_29, wE.eq_30, wE.eq_31, wE.eq_32, wEs, wFs, smW, wDs, dkW, dixW, dstW, dgtW, isDct, dmW, kOf, dnW, inW, dinxW, dsnW, Bool.or_true, Bool.true_or, Bool.false_or, wO, wI, getS, setS, setsS, startS, clrS, clrsS, binW, cmpW, bfW, idxW, slcW, mfW, x1W, getW, augW, asgW, asgsW, unpW, tst, truth, seqOf, isNone, isLst, stoW, List.map_cons, List.map_nil, List.length_cons, List.length_nil, List.replicate, List.cons_append, List.nil_append, List.append_nil, Nat.reduceAdd, Nat.reduceSub, if_true, if_false, decide_eq_true_eq, Nat.zero_add, true_and, Option.isSome_some, Option.isSome_none, Bool.true_eq_false, Bool.false_eq_true, ixs, atIs, eqV_int, isTy, intOf, boolOf,  atI_last, List.getElem?_cons_zero, List.getElem?_cons_succ, List.set_cons_zero, List.set_cons_succ, List.set_set, Int.reduceAbs, Nat.reducePow, Int.reduceToNat, Int.reducePow, Int.reduceMul, Int.reduceAdd, Int.reduceSub, Int.reduceNeg, Int.cast_ofNat_Int, Int.reduceEq, eq_self, Int.reduceLT, Int.reduceLE, Nat.reduceLT, Nat.reduceLeDiff, decide_true, decide_false, Bool.not_true, Bool.not_false, and_true, List.length_set, mut_set, lst_set, mut_new, lst_new, mut_new2, lst_new2, mut_new3, lst_new3, set_new, szs, isDisp]
    rw [← hv]
    refine s_over_at hf fun ν f => ?_
    have := q ν f
    unfold Laid.runs at this
    rw [decide_eq_true h, Bool.true_and] at this
    exact this
  · simp only [h, wB, wS.eq_1, wS.eq_2, wS.eq_3, wS.eq_4, wS.eq_5, wS.eq_6, wS.eq_7, wS.eq_8, wS.eq_9, wS.eq_10, wS.eq_13, wS.eq_14, wS.eq_15, wS.eq_16, wS.eq_18, wS_fr, wS_whl, thD_none, wE.eq_1, wE.eq_2, wE.eq_3, wE.eq_4, wE.eq_5, wE.eq_6, wE.eq_7, wE.eq_8, wE.eq_9, wE.eq_10, wE.eq_11, wE.eq_12, wE.eq_13, wE.eq_14, wE.eq_15, wE.eq_16, wE.eq_17, wE.eq_18, wE.eq_19, wE_lc, wE.eq_21, wE.eq_22, wE.eq_23, wE.eq_24, wE.eq_25, wE.eq_26, wE.eq_27, wE.eq_28, wE.eq_29, wE.eq_30, wE.eq_31, wE.eq_32, wEs, wFs, smW, wDs, dkW, dixW, dstW, dgtW, isDct, dmW, kOf, dnW, inW, dinxW, dsnW, Bool.or_true, Bool.true_or, Bool.false_or, wO, wI, getS, setS, setsS, startS, clrS, clrsS, binW, cmpW, bfW, idxW, slcW, mfW, x1W, getW, augW, asgW, asgsW, unpW, tst, truth, seqOf, isNone, isLst, stoW, List.map_cons, List.map_nil, List.length_cons, List.length_nil, List.replicate, List.cons_append, List.nil_append, List.append_nil, Nat.reduceAdd, Nat.reduceSub, if_true, if_false, decide_eq_true_eq, Nat.zero_add, true_and, Option.isSome_some, Option.isSome_none, Bool.true_eq_false, Bool.false_eq_true, ixs, atIs, eqV_int, isTy, intOf, boolOf,  atI_last, List.getElem?_cons_zero, List.getElem?_cons_succ, List.set_cons_zero, List.set_cons_succ, List.set_set, Int.reduceAbs, Nat.reducePow, Int.reduceToNat, Int.reducePow, Int.reduceMul, Int.reduceAdd, Int.reduceSub, Int.reduceNeg, Int.cast_ofNat_Int, Int.reduceEq, eq_self, Int.reduceLT, Int.reduceLE, Nat.reduceLT, Nat.reduceLeDiff, decide_true, decide_false, Bool.not_true, Bool.not_false, and_true, List.length_set, mut_set, lst_set, mut_new, lst_new, mut_new2, lst_new2, mut_new3, lst_new3, set_new, szs, isDisp]
    have := q μ Fr.refl
    unfold Laid.runs at this
    rw [decide_eq_false h, Bool.false_and] at this
    exact this
/-- the numbers of those that run -/
def runFrom (n : Nat) (p : Int) : List Laid → List Int
  | [] => []
  | x :: r => if x.runs p = true then (n : Int) :: runFrom (n + 1) p r else runFrom (n + 1) p r
def runOf (p : Int) (xs : List Laid) (v : Vl) : Option Vl := match v with
  | .tup [.int i, _] => match xs[i.toNat]? with
    | some x => if x.runs p = true then some (.int i) else none
    | none => none
  | _ => none
theorem runOf_all (p : Int) : ∀ (all xs : List Laid) (n : Nat), all.drop n = xs → ((xs.map Laid.v).zipIdx n |>.map fun q => Vl.tup [.int q.2, q.1]).filterMap (runOf p all) = (runFrom n p xs).map Vl.int
  | all, [], n, h => rfl
  | all, x :: r, n, h => by
    have hx : all[n]? = some x := by
      have := congrArg (·[0]?) h
      simpa using this
    have hr : all.drop (n + 1) = r := by
      have := congrArg (List.drop 1) h
      simpa [List.drop_drop] using this
    have ih := runOf_all p all r (n + 1) hr
    rw [List.map_cons, List.zipIdx_cons, List.map_cons, List.filterMap_cons, ih]
    simp only [runOf, Int.toNat_natCast, hx, runFrom]
    split <;> rename_i h1 <;> split at h1 <;> simp_all
theorem s_running {k : Nat} {xs : List Laid} {p : Int} {μ : Mem} {Q : K1} (hl : xs.length ≤ 1000) (hf : ∀ x ∈ xs, Few x.ss) (q : ∀ ν, Fr [] μ ν → Q (.tup ((runFrom 0 p xs).map Vl.int)) ν) : phi txt.F txt.G (k + 4) "running" [.tup (xs.map Laid.v), .int p] μ Q := by
  rw [p_running]
  refine ⟨rfl, ?_⟩
  simp! only [b_running_0, srcOf]
  refine lcN_map (phi_le _ _ (Nat.le_refl _)) (runOf p xs) trivial (by rw [List.length_map, List.length_zipIdx, List.length_map]; exact Nat.le_trans hl (by decide)) (fun z hz ν f => ?_) fun ν f e => ?_
  · obtain ⟨⟨v, i⟩, hi, rfl⟩ := List.mem_map.mp hz
    have hi4 := List.mem_zipIdx' hi
    simp only [List.length_map] at hi4
    obtain ⟨h1, h2⟩ := hi4
    rw [List.getElem_map] at h2
    have hm : xs[i] ∈ xs := List.getElem_mem h1
    have h3 : v = xs[i].v := h2
    clear h2 hz hi
    rw [h3]
    clear h3
    simp! only [true_and]
    refine s_runs_at (hf _ hm) fun ν1 f1 => ?_
    simp! only [runOf, Int.toNat_natCast, List.getElem?_eq_getElem h1]
    refine ⟨f1, ?_⟩
    cases hr : xs[i].runs p with
    | true => simp! only [true_and]; exact Fr.refl
    | false => simp! only [true_and]
  have := runOf_all p xs xs 0 rfl
  rw [this] at e
  simp! only [mut_lst e]
  exact q ν f
/-- how thick a laid wisp is at a place -/
def Laid.strong (x : Laid) (p : Int) : Int := if x.runs p = true then thk 0 x.ss (p - x.at_) else 0
def strongs (p : Int) (xs : List Laid) : Int := (xs.map fun x => x.strong p).sum
/-- of a sort alone -/
def bothAt (p o : Int) (xs : List Laid) : Int := ((xs.filter fun x => decide (x.o = o)).map fun x => x.strong p).sum
theorem bothAt_snoc (p o : Int) (xs : List Laid) (x : Laid) : bothAt p o (xs ++ [x]) = bothAt p o xs + if x.o = o then x.strong p else 0 := by
  unfold bothAt
  rw [List.filter_append, List.map_append, List.sum_append]
  congr 1
  by_cases h : x.o = o
  · rw [List.filter_cons_of_pos (by simpa using h), if_pos h]; simp
  · rw [List.filter_cons_of_neg (by simpa using h), if_neg h]; simp
theorem strongs_both (p : Int) : ∀ (xs : List Laid), (∀ x ∈ xs, 0 ≤ x.o ∧ x.o ≤ 1) → strongs p xs = bothAt p 0 xs + bothAt p 1 xs
  | [], _ => rfl
  | x :: xs, h => by
    have h1 := h x List.mem_cons_self
    have ih := strongs_both p xs fun y hy => h y (List.mem_cons_of_mem _ hy)
    unfold strongs bothAt at *
    rw [List.map_cons, List.sum_cons, ih]
    by_cases c : x.o = 0
    · rw [List.filter_cons_of_pos (by simpa using c), List.filter_cons_of_neg (by simp; omega), List.map_cons, List.sum_cons]
      omega
    · rw [List.filter_cons_of_neg (by simpa using c), List.filter_cons_of_pos (by simp; omega), List.map_cons, List.sum_cons]
      omega
theorem s_strong_at {k : Nat} {x : Laid} {p : Int} {μ : Mem} {Q : K1} (hf : Few x.ss) (q : ∀ ν, Fr [] μ ν → Q (.int (x.strong p)) ν) : phi txt.F txt.G (k + 4) "strong_at" [x.v, .int p] μ Q := by
  rw [p_strong_at]
  refine ⟨rfl, ?_⟩
  have hv : x.v = .tup [wspV x.o x.ss, .int x.at_, x.lv] := rfl
  simp! only [b_strong_at_0]
  refine s_runs_at hf fun ν f => ?_
  have q := q ν f
  unfold Laid.strong at q
  cases h : x.runs p with
  | false =>
    rw [h] at q
    simp! only [b_strong_at_1]
    exact q
  | true =>
    rw [h] at q
    simp! only [b_strong_at_2]
    rw [hv]
    simp! only [true_and]
    exact s_thick_at q
theorem s_by_sorts {k : Nat} {xs : List Laid} {p : Int} {μ : Mem} {Q : K1} (hf : ∀ x ∈ xs, Few x.ss ∧ 0 ≤ x.o ∧ x.o ≤ 1) (q : ∀ ν, Fr [] μ ν → Q (.tup [.int (bothAt p 0 xs), .int (bothAt p 1 xs)]) ν) : phi txt.F txt.G (k + 5) "by_sorts" [.tup (xs.map Laid.v), .int p] μ Q := by
  rw [p_by_sorts]
  refine ⟨rfl, ?_⟩
  simp! only [b_by_sorts_0, b_by_sorts_1, srcOf]
  refine frN_inv (phi_le _ _ (Nat.le_refl _)) (fun i σ ν => ∃ x3 : Option Vl, σ = [some (.tup (xs.map Laid.v)), some (.int p), some (.ref μ.length), x3] ∧ mutAt ν μ.length = some [.int (bothAt p 0 (xs.take i)), .int (bothAt p 1 (xs.take i))] ∧ Fr [] μ ν) ⟨_, rfl, mut_new, Fr.app⟩ ?_ ?_
  · rintro i z σ ν hz ⟨x3, rfl, e, f⟩
    rw [List.getElem?_map, Option.map_eq_some_iff] at hz
    obtain ⟨x, hx, rfl⟩ := hz
    have hm := List.mem_of_getElem? hx
    obtain ⟨h1, h2, h3⟩ := hf x hm
    have ht : xs.take (i + 1) = xs.take i ++ [x] := by rw [List.take_succ, hx]; rfl
    have hv : x.v = .tup [wspV x.o x.ss, .int x.at_, x.lv] := rfl
    have hw : wspV x.o x.ss = .tup [.int x.o, .tup (x.ss.map stpV)] := rfl
    refine ⟨trivial, ?_⟩
    simp! only [b_by_sorts_2]
    rw [hv, hw]
    simp! only [e]
    rw [← hw, ← hv]
    have ho : x.o = 0 ∨ x.o = 1 := by omega
    have go : ∀ ν1, Fr [] ν ν1 → mutAt ν1 μ.length = some [.int (bothAt p 0 (xs.take i)), .int (bothAt p 1 (xs.take i))] := fun ν1 f1 => f1.mut e (by simp)
    rcases ho with ho | ho
    · rw [ho]
      simp! only [true_and]
      refine s_strong_at h1 fun ν1 f1 => ?_
      simp! only [go ν1 f1]
      refine ⟨_, rfl, ?_, (f.trans f1).setNew (Nat.le_refl _)⟩
      rw [mut_set (mut_lt (go ν1 f1)), ht, bothAt_snoc, bothAt_snoc, if_pos ho, if_neg (by omega), Int.add_zero]
    · rw [ho]
      simp! only [true_and]
      refine s_strong_at h1 fun ν1 f1 => ?_
      simp! only [go ν1 f1]
      refine ⟨_, rfl, ?_, (f.trans f1).setNew (Nat.le_refl _)⟩
      rw [mut_set (mut_lt (go ν1 f1)), ht, bothAt_snoc, bothAt_snoc, if_neg (by omega), if_pos ho, Int.add_zero]
  · rintro σ ν ⟨x3, rfl, e, f⟩
    rw [List.length_map, List.take_length] at e
    refine ⟨trivial, ?_⟩
    simp! only [b_by_sorts_3, mut_lst e]
    exact q ν f
theorem optAll_intsA {α : Type} (g : α → Int) : ∀ xs : List α, optAll intOf (xs.map fun x => Vl.int (g x)) = some (xs.map g)
  | [] => rfl
  | x :: xs => by simp only [List.map_cons, optAll, intOf, optAll_intsA g xs]
theorem filterMap_all {α β : Type} (g : α → β) : ∀ xs : List α, (xs.filterMap fun x => some (g x)) = xs.map g
  | [] => rfl
  | x :: xs => by rw [List.filterMap_cons, filterMap_all g xs]; rfl
/-! where a strand gets thin first -/
def stops (b : Int) : List (Int × Int) → List Int
  | [] => []
  | (_, l) :: r => (b + l) :: stops (b + l) r
/-- the places where a laid wisp begins, changes, is over -/
def Laid.chg (x : Laid) : List Int := x.at_ :: (stops x.at_ x.ss).map fun e => min e x.over
structure WOk (x : Laid) : Prop where
  few : Few x.ss
  ne : x.ss ≠ []
  len : x.ss.length ≤ 8
  pos : ∀ y ∈ x.ss, 1 ≤ y.1 ∧ 1 ≤ y.2
  falls : x.ss.Pairwise fun y z => z.1 < y.1
theorem thk_const : ∀ (ss : List (Int × Int)) (b k k' : Int), k ≤ k' → (∀ e ∈ stops b ss, ¬ (k < e ∧ e ≤ k')) → thk b ss k = thk b ss k'
  | [], _, _, _, _, _ => rfl
  | (s, l) :: r, b, k, k', h, hc => by
    have h1 := hc (b + l) List.mem_cons_self
    rw [thk, thk]
    by_cases c : k < b + l
    · rw [if_pos c, if_pos (by omega)]
    · rw [if_neg c, if_neg (by omega)]
      exact thk_const r (b + l) k k' h fun e he => hc e (List.mem_cons_of_mem _ he)
theorem longs_pos0 : ∀ (ss : List (Int × Int)), (∀ y ∈ ss, 1 ≤ y.2) → 0 ≤ longs ss
  | [], _ => by simp [longs]
  | y :: r, h => by
    have h1 := h y List.mem_cons_self
    have ih := longs_pos0 r fun z hz => h z (List.mem_cons_of_mem _ hz)
    have e : longs (y :: r) = y.2 + longs r := rfl
    omega
theorem thk_zero : ∀ (ss : List (Int × Int)) (b k : Int), (∀ y ∈ ss, 1 ≤ y.2) → b + longs ss ≤ k → thk b ss k = 0
  | [], _, _, _, _ => rfl
  | (s, l) :: r, b, k, hp, h => by
    have e : longs ((s, l) :: r) = l + longs r := rfl
    have hr := fun y hy => hp y (List.mem_cons_of_mem _ hy)
    have := longs_pos0 r hr
    rw [thk, if_neg (by omega)]
    exact thk_zero r (b + l) k hr (by omega)
theorem thk_nn : ∀ (ss : List (Int × Int)) (b k : Int), (∀ y ∈ ss, 1 ≤ y.1) → 0 ≤ thk b ss k
  | [], _, _, _ => Int.le_refl _
  | (s, l) :: r, b, k, hp => by
    have h1 : 1 ≤ s := hp (s, l) List.mem_cons_self
    rw [thk]
    split
    · omega
    · exact thk_nn r (b + l) k fun y hy => hp y (List.mem_cons_of_mem _ hy)
theorem stops_last : ∀ (ss : List (Int × Int)) (b : Int), ss ≠ [] → b + longs ss ∈ stops b ss
  | [], _, h => absurd rfl h
  | [(s, l)], b, _ => by simp [stops, longs]
  | (s, l) :: y :: r, b, _ => by
    have ih := stops_last (y :: r) (b + l) (by simp)
    have e : b + longs ((s, l) :: y :: r) = b + l + longs (y :: r) := by
      show b + (l + longs (y :: r)) = _
      omega
    rw [e]
    exact List.mem_cons_of_mem _ ih
theorem stops_len : ∀ (ss : List (Int × Int)) (b : Int), (stops b ss).length = ss.length
  | [], _ => rfl
  | (s, l) :: r, b => by simp [stops, stops_len r]
theorem stops_gt : ∀ (ss : List (Int × Int)) (b : Int), (∀ y ∈ ss, 1 ≤ y.2) → ∀ e ∈ stops b ss, b < e
  | [], _, _, _, h => by cases h
  | (s, l) :: r, b, hp, e, h => by
    have h1 : 1 ≤ l := hp (s, l) List.mem_cons_self
    rcases List.mem_cons.mp h with rfl | h
    · omega
    · have := stops_gt r (b + l) (fun y hy => hp y (List.mem_cons_of_mem _ hy)) e h
      omega
theorem Laid.over_le (x : Laid) : x.over ≤ x.at_ + longs x.ss := by
  unfold Laid.over
  split <;> omega
theorem over_chg {x : Laid} (h : x.ss ≠ []) : x.over ∈ x.chg := by
  refine List.mem_cons_of_mem _ (List.mem_map.mpr ⟨_, stops_last x.ss x.at_ h, ?_⟩)
  have := x.over_le
  omega
theorem strong_off {x : Laid} {p : Int} (h : x.over ≤ p ∨ p < x.at_) : x.strong p = 0 := by
  have : x.runs p = false := by unfold Laid.runs; simp; omega
  unfold Laid.strong
  rw [if_neg (by rw [this]; decide)]
theorem strong_on {x : Laid} {p : Int} (h : x.at_ ≤ p) (h2 : p < x.over) : x.strong p = thk 0 x.ss (p - x.at_) := by
  have : x.runs p = true := by unfold Laid.runs; simp; omega
  unfold Laid.strong
  rw [if_pos this]
theorem strong_nn {x : Laid} {p : Int} (h : ∀ y ∈ x.ss, 1 ≤ y.1) : 0 ≤ x.strong p := by
  unfold Laid.strong
  split
  · exact thk_nn _ _ _ h
  · omega
theorem stops_shift : ∀ (ss : List (Int × Int)) (b d : Int), ∀ e ∈ stops b ss, e + d ∈ stops (b + d) ss
  | [], _, _, _, h => by cases h
  | (s, l) :: r, b, d, e, h => by
    have e1 : b + d + l = b + l + d := by omega
    rw [stops, e1]
    rcases List.mem_cons.mp h with rfl | h
    · exact List.mem_cons_self
    · exact List.mem_cons_of_mem _ (stops_shift r (b + l) d e h)
theorem strong_const {x : Laid} (ne : x.ss ≠ []) {p q : Int} (h : p ≤ q) (hc : ∀ c ∈ x.chg, ¬ (p < c ∧ c ≤ q)) : x.strong p = x.strong q := by
  have h1 := hc x.at_ List.mem_cons_self
  have h2 := hc x.over (over_chg ne)
  by_cases c1 : q < x.at_
  · rw [strong_off (.inr c1), strong_off (.inr (by omega))]
  · by_cases c2 : x.over ≤ q
    · rw [strong_off (.inl c2), strong_off (.inl (by omega))]
    · rw [strong_on (by omega) (by omega), strong_on (by omega) (by omega)]
      refine thk_const _ _ _ _ (by omega) fun e he z => ?_
      have h3 := stops_shift x.ss 0 x.at_ e he
      rw [Int.zero_add] at h3
      have h4 := hc (min (e + x.at_) x.over) (List.mem_cons_of_mem _ (List.mem_map.mpr ⟨_, h3, rfl⟩))
      omega
theorem strongs_const {xs : List Laid} (ne : ∀ x ∈ xs, x.ss ≠ []) {p q : Int} (h : p ≤ q) (hc : ∀ x ∈ xs, ∀ c ∈ x.chg, ¬ (p < c ∧ c ≤ q)) : strongs p xs = strongs q xs := by
  unfold strongs
  congr 1
  exact List.map_congr_left fun x hx => strong_const (ne x hx) h (hc x hx)
theorem strongs_zero : ∀ {xs : List Laid} {p : Int}, (∀ x ∈ xs, x.over ≤ p) → strongs p xs = 0
  | [], _, _ => rfl
  | x :: xs, p, h => by
    have e : strongs p (x :: xs) = x.strong p + strongs p xs := rfl
    rw [e, strong_off (.inl (h x List.mem_cons_self)), strongs_zero fun y hy => h y (List.mem_cons_of_mem _ hy)]
    rfl
theorem strongs_nn : ∀ {xs : List Laid} {p : Int}, (∀ x ∈ xs, WOk x) → 0 ≤ strongs p xs
  | [], _, _ => Int.le_refl _
  | x :: xs, p, h => by
    have e : strongs p (x :: xs) = x.strong p + strongs p xs := rfl
    have a := strong_nn (p := p) fun y hy => ((h x List.mem_cons_self).pos y hy).1
    have b := strongs_nn (p := p) fun y hy => h y (List.mem_cons_of_mem _ hy)
    omega
theorem strongs_app (p : Int) (xs ys : List Laid) : strongs p (xs ++ ys) = strongs p xs + strongs p ys := by
  unfold strongs
  rw [List.map_append, List.sum_append]
/-- the first place from now on where all are thinner than low -/
def First (xs : List Laid) (low now r : Int) : Prop := now ≤ r ∧ strongs r xs < low ∧ ∀ p, now ≤ p → p < r → low ≤ strongs p xs
theorem First.uniq {xs : List Laid} {low now r s : Int} (h : First xs low now r) (g : First xs low now s) : r = s := by
  by_cases c : r < s
  · have := g.2.2 r h.1 c
    have := h.2.1
    omega
  · by_cases c : s < r
    · have := h.2.2 s g.1 c
      have := g.2.1
      omega
    · omega
/-- all that begins, changes, is over is among these -/
def Cov (xs : List Laid) (C : Int → Prop) : Prop := ∀ x ∈ xs, ∀ c ∈ x.chg, C c
theorem first_next {xs : List Laid} {C : Int → Prop} (ne : ∀ x ∈ xs, x.ss ≠ []) (hC : Cov xs C) {place later : Int} (hno : ∀ c, C c → ¬ (place < c ∧ c < later)) {p : Int} (h1 : place ≤ p) (h2 : p < later) : strongs p xs = strongs place xs := by
  refine (strongs_const ne h1 fun x hx c hc z => ?_).symm
  exact hno c (hC x hx c hc) ⟨z.1, by omega⟩
theorem first_end {xs : List Laid} {C : Int → Prop} (ne : ∀ x ∈ xs, x.ss ≠ []) (hC : Cov xs C) {place : Int} (h : ∀ c, C c → c ≤ place) : strongs place xs = 0 :=
  strongs_zero fun x hx => h _ (hC x hx _ (over_chg (ne x hx)))
theorem s_changes {k : Nat} {xs : List Laid} {μ : Mem} {Q : K1} (hx : ∀ x ∈ xs, WOk x) (hl : xs.length ≤ 1000)
    (q : ∀ (ms : List Int) (R : Nat) (ν : Mem), ms.Pairwise (· < ·) → (∀ c, c ∈ ms ↔ ∃ x ∈ xs, c ∈ x.chg) → ms.length ≤ 9 * xs.length → Fr [] μ ν → mutAt ν R = some (ms.map Vl.int) → μ.length ≤ R → Q (.ref R) ν) : phi txt.F txt.G (k + 3) "changes" [.tup (xs.map Laid.v)] μ Q := by
  rw [p_changes]
  refine ⟨rfl, ?_⟩
  simp! only [b_changes_0, b_changes_1, srcOf]
  refine frN_inv (phi_le _ _ (Nat.le_refl _)) (fun i σ ν => ∃ (acc : List Int) (y2 y3 y4 y5 y6 : Option Vl), σ = [some (.tup (xs.map Laid.v)), some (.ref μ.length), y2, y3, y4, y5, y6] ∧ dctMut ν μ.length = some (dI acc) ∧ acc.Nodup ∧ (∀ c, c ∈ acc ↔ ∃ x ∈ xs.take i, c ∈ x.chg) ∧ acc.length ≤ 9 * i ∧ Fr [] μ ν) ⟨[], _, _, _, _, _, rfl, dctm_new, List.nodup_nil, by simp, by simp, Fr.app⟩ ?_ ?_
  · rintro i z σ ν hz ⟨acc, y2, y3, y4, y5, y6, rfl, d1, d2, d3, d4, f⟩
    rw [List.getElem?_map, Option.map_eq_some_iff] at hz
    obtain ⟨x, hxi, rfl⟩ := hz
    have hxm := List.mem_of_getElem? hxi
    have ok := hx x hxm
    have tk : xs.take (i + 1) = xs.take i ++ [x] := by rw [List.take_succ, hxi]; rfl
    refine ⟨trivial, ?_⟩
    have hv : x.v = .tup [wspV x.o x.ss, .int x.at_, x.lv] := rfl
    simp! only [b_changes_2]
    rw [hv]
    simp! only [b_changes_3]
    rw [← hv]
    refine s_over_at ok.few fun ν1 f1 => ?_
    have e1m := f1.dctm d1 (by simp)
    have e1 := at_dct (dctm_at e1m)
    have l1 := dct_lt e1
    simp! only [b_changes_4, e1, e1m, dct_lst e1, dct_mut e1]
    rw [dput_dI]
    rw [hv]
    simp! only [wspV, b_changes_5, srcOf]
    have F1 := f.trans f1
    have hi := (List.getElem?_eq_some_iff.mp hxi).1
    refine And.intro (by rw [dI_len]; exact Nat.lt_of_le_of_lt (show _ ≤ 9009 by omega) (by decide)) ?_
    refine frN_inv (phi_le _ _ (Nat.le_refl _)) (fun j σ ν => ∃ (ac : List Int) (pl : Int) (y5 y6 : Option Vl), σ = [some (.tup (xs.map Laid.v)), some (.ref μ.length), some (.tup [wspV x.o x.ss, .int x.at_, x.lv]), some (.int pl), some (.int x.over), y5, y6] ∧ dctMut ν μ.length = some (dI ac) ∧ ac.Nodup ∧ (∀ c, (c ∈ ac ∨ c ∈ (stops pl (x.ss.drop j)).map fun e => min e x.over) ↔ (c ∈ acc ∨ c ∈ x.chg)) ∧ ac.length ≤ 9 * i + 1 + j ∧ Fr [] μ ν) ⟨addI acc x.at_, x.at_, _, _, rfl, dctm_set l1, addI_nodup d2, ?_, ?_, F1.setNew (Nat.le_refl _)⟩ ?_ ?_
    · intro c
      rw [mem_addI, List.drop_zero]
      unfold Laid.chg
      rw [List.mem_cons]
      constructor
      · rintro ((a | a) | a)
        · exact .inl a
        · exact .inr (.inl a)
        · exact .inr (.inr a)
      · rintro (a | a | a)
        · exact .inl (.inl a)
        · exact .inl (.inr a)
        · exact .inr a
    · have := addI_len acc x.at_
      omega
    · rintro j z σ ν hz ⟨ac, pl, y5, y6, rfl, g1, g2, g3, g4, f4⟩
      rw [List.getElem?_map, Option.map_eq_some_iff] at hz
      obtain ⟨⟨s, l⟩, hw, rfl⟩ := hz
      obtain ⟨hj, hw⟩ := List.getElem?_eq_some_iff.mp hw
      rw [List.drop_eq_getElem_cons hj, hw] at g3
      refine ⟨trivial, ?_⟩
      have g1d := at_dct (dctm_at g1)
      have l4 := dct_lt g1d
      simp! only [stpV, b_changes_6, b_changes_7, g1, g1d, dct_lst g1d, dct_mut g1d]
      rw [dput_dI]
      have h8 := ok.len
      refine And.intro (by rw [dI_len]; exact Nat.lt_of_le_of_lt (show _ ≤ 9019 by omega) (by decide)) ?_
      refine ⟨addI ac (min (pl + l) x.over), pl + l, _, _, rfl, dctm_set l4, addI_nodup g2, fun c => ?_, ?_, f4.setNew (Nat.le_refl _)⟩
      · rw [← g3 c, mem_addI, stops, List.map_cons, List.mem_cons]
        constructor
        · rintro ((a | a) | a)
          · exact .inl a
          · exact .inr (.inl a)
          · exact .inr (.inr a)
        · rintro (a | a | a)
          · exact .inl (.inl a)
          · exact .inl (.inr a)
          · exact .inr a
      · have := addI_len ac (min (pl + l) x.over)
        omega
    · rintro σ ν ⟨ac, pl, y5, y6, rfl, g1, g2, g3, g4, f4⟩
      rw [List.length_map] at g3 g4
      rw [List.drop_length] at g3
      refine ⟨trivial, ac, _, _, _, _, _, rfl, g1, g2, fun c => ?_, ?_, f4⟩
      · have := g3 c
        simp only [stops, List.map_nil, List.not_mem_nil, or_false] at this
        rw [this, tk, d3 c]
        constructor
        · rintro (⟨y, hy, h⟩ | h)
          · exact ⟨y, List.mem_append_left _ hy, h⟩
          · exact ⟨x, List.mem_append_right _ (by simp), h⟩
        · rintro ⟨y, hy, h⟩
          rcases List.mem_append.mp hy with hy | hy
          · exact .inl ⟨y, hy, h⟩
          · rw [List.mem_singleton.mp hy] at h
            exact .inr h
      · have := ok.len
        omega
  · rintro σ ν ⟨acc, y2, y3, y4, y5, y6, rfl, d1, d2, d3, d4, f⟩
    rw [List.length_map] at d3 d4
    rw [List.take_length] at d3
    refine ⟨trivial, ?_⟩
    have d1d := at_dct (dctm_at d1)
    simp! only [b_changes_8, d1, dct_lst d1d, dI_keys]
    intro ms pm pw
    have nd : ms.Nodup := pm.nodup_iff.mpr d2
    have st : ms.Pairwise (· < ·) := by
      refine (pw.and nd).imp fun h => ?_
      omega
    refine q ms _ _ st (fun c => ?_) ?_ (f.trans Fr.app) mut_new f.1
    · rw [pm.mem_iff, d3 c]
    · rw [pm.length_eq]
      omega
theorem thk_shift : ∀ (b d k : Int) (ss : List (Int × Int)), thk (b + d) ss (k + d) = thk b ss k
  | _, _, _, [] => rfl
  | b, d, k, (s, l) :: r => by
    rw [thk, thk]
    by_cases c : k < b + l
    · rw [if_pos (by omega), if_pos c]
    · rw [if_neg (by omega), if_neg c, ← thk_shift (b + l) d k r]
      congr 1
      omega
end PV

set_option exponentiation.threshold 2000
namespace PV
open PySem PySem.Spec PyProof.Rows L2
/-! a row drawn late -/
abbrev Wis := Int × List (Int × Int)
def Wis.v (w : Wis) : Vl := wspV w.1 w.2
def ROk (row : List Wis) : Prop := ∀ w ∈ row, ∀ a l, WOk ⟨w.1, w.2, a, l⟩
theorem lv_df (x : Laid) : x.lv = dfV x.let_ := by
  obtain ⟨o, ss, a, l⟩ := x
  cases l <;> rfl
/-- a wisp as it is drawn here -/
def Drw (w : Wis) : Prop := 0 ≤ w.1 ∧ w.1 ≤ 1 ∧ Wsp 10000000000000000000000000000000000000000 10000000000000000000000000000000000000000 w.2
theorem Drw.ok {w : Wis} (h : Drw w) : ∀ a l, WOk ⟨w.1, w.2, a, l⟩ := fun a l => by
  obtain ⟨h1, h2, h3⟩ := h
  refine ⟨⟨Nat.le_trans h3.len (by decide), fun x hx => ?_⟩, h3.ne, h3.len, fun y hy => ⟨(h3.s1 y hy).1, (h3.l1 y hy).1⟩, h3.falls⟩
  have a := h3.s1 x hx
  have b := h3.l1 x hx
  unfold Bd
  exact ⟨by omega, by omega⟩
theorem mul_le {a b A B : Int} (ha : 0 ≤ a) (hA : a ≤ A) (hb : 0 ≤ b) (hB : b ≤ B) : 0 ≤ a * b ∧ a * b ≤ A * B :=
  ⟨Int.mul_nonneg ha hb, Int.mul_le_mul hA hB hb (Int.le_trans ha hA)⟩
theorem pos_mul {a b : Int} (ha : 1 ≤ a) (hb : 1 ≤ b) : 1 ≤ a * b := by
  have := Int.mul_le_mul ha hb (by omega) (by omega)
  omega
theorem toInt_le (b : Bool) : 0 ≤ b.toInt ∧ b.toInt ≤ 1 := by cases b <;> decide
/-- so many of a unit, and perhaps one more -/
theorem unit_le {u v w : Int} {b : Bool} (hu : 1 ≤ u ∧ u ≤ 10000000000000000000000000000000000007) (hv : 0 ≤ v ∧ v < 20) (hw : 0 ≤ w ∧ w < 2) : 0 ≤ u * v + w * b.toInt ∧ u * v + w * b.toInt ≤ 200000000000000000000000000000000000000 := by
  have h1 := mul_le (a := u) (b := v) (by omega) hu.2 hv.1 (show v ≤ 19 by omega)
  have h2 := toInt_le b
  have h3 := mul_le (a := w) (b := b.toInt) hw.1 (show w ≤ 1 by omega) h2.1 h2.2
  omega
theorem unit_ok {u v : Int} (hu : 1 ≤ u ∧ u ≤ 10000000000000000000000000000000000007) (hv : 0 ≤ v ∧ v < 20) : mulOk u v := mulOk_le 10000000000000000000000000000000000007 20 (by omega) (by omega) (by decide)
theorem more_ok {w : Int} {b : Bool} (hw : 0 ≤ w ∧ w < 2) : mulOk w b.toInt := mulOk_le 20 20 (by omega) (by have := toInt_le b; omega) (by decide)
theorem s_one_wisp {k N p o : Nat} {unit span most : Int} {μ : Mem} {Q : K1} (hN : N ≤ 100000000) (h : Pot N p o μ) (hu : 1 ≤ unit ∧ unit ≤ 10000000000000000000000000000000000007) (hsp : 1 ≤ span ∧ span ≤ 10000000000000000000000000000000000007) (hm : 1 ≤ most ∧ most ≤ 8)
    (q : ∀ (w : Wis) ν, Drw w → w.2.length ≤ max 2 most → Fr [p, o] μ ν → Pot (N + 50) p o ν → Q w.v ν) : phi txt.F txt.G (k + 3) "_law_one_wisp" [.ref p, .int unit, .int span, .int most] μ Q := by
  obtain ⟨hp, ho⟩ := h.lt
  rw [p__law_one_wisp]
  refine ⟨rfl, ?_⟩
  simp! only [b__law_one_wisp_0, b__law_one_wisp_1]
  refine s_take (by omega) (by omega) (by omega) (h.fr (S := []) Fr.app (by simp) (by simp)) fun v0 ν0 l0 u0 f0 g0 => ?_
  have e0 : mutAt ν0 μ.length = some [] := f0.mut mut_new (by simp; omega)
  have F0 : Fr [p, o] μ ν0 := (Fr.app (S := [p, o])).trans f0
  have hl0 := F0.1
  refine s_of (by omega) (g0.fr (S := []) Fr.app (by simp) (by simp)) lst_new (by simp) (by simp) (by omega) (by omega) fun j v1 ν1 hj f1 g1 => ?_
  have b1 : ∃ n : Nat, v1 = .int n ∧ 1 ≤ n ∧ (n : Int) ≤ max 2 most ∧ n ≤ 8 := by
    have cs := List.mem_of_getElem? hj
    simp only [List.mem_cons, List.not_mem_nil, or_false] at cs
    rcases cs with rfl | rfl | rfl | rfl
    · exact ⟨1, rfl, by omega, by omega, by omega⟩
    · exact ⟨2, rfl, by omega, by omega, by omega⟩
    · exact ⟨(1 + v0).toNat, by rw [Int.toNat_of_nonneg (by omega)], by omega, by omega, by omega⟩
    · exact ⟨most.toNat, by rw [Int.toNat_of_nonneg (by omega)], by omega, by omega, by omega⟩
  obtain ⟨n, rfl, n1, n2, n3⟩ := b1
  have F1 : Fr [p, o] μ ν1 := (F0.trans Fr.app).trans f1
  have e1 : mutAt ν1 μ.length = some [] := f1.mut (mut_app e0) (by simp; omega)
  refine And.intro (by omega) ?_
  rw [Int.toNat_natCast]
  refine frN_inv (phi_le _ _ (Nat.le_refl _)) (fun i σ ν => ∃ (ss : List (Int × Int)) (st : Int) (y6 : Option Vl), σ = [some (.ref p), some (.int unit), some (.int span), some (.int most), some (.ref μ.length), some (.int st), y6] ∧ mutAt ν μ.length = some (ss.map stpV) ∧ ss.length = i ∧ 0 ≤ st ∧ st ≤ i * 200000000000000000000000000000000000000 ∧ (∀ x ∈ ss, 1 ≤ x.1 ∧ x.1 ≤ st) ∧ (∀ x ∈ ss, 1 ≤ x.2 ∧ x.2 ≤ 200000000000000000000000000000000000000) ∧ (ss.Pairwise fun x y => y.1 < x.1) ∧ Fr [p, o] μ ν ∧ Pot (N + 2 + 4 * i) p o ν) ⟨[], 0, _, rfl, e1, rfl, by omega, by omega, by simp, by simp, by simp, F1, g1⟩ ?_ ?_
  · rintro i z σ ν hz ⟨ss, st, y6, rfl, d1, d2, d3, d4, d5, d6, d7, f, g⟩
    have hi : i < 8 := by
      have := (List.getElem?_eq_some_iff.mp hz).1
      rw [List.length_map, List.length_range] at this
      omega
    refine ⟨trivial, ?_⟩
    simp! only [b__law_one_wisp_2]
    refine s_take (by omega) (by omega) (by omega) g fun w1 ξ1 m1 n1 f1 g1 => ?_
    refine And.intro (unit_ok hu (by omega)) ?_
    refine s_take (by omega) (by omega) (by omega) g1 fun w2 ξ2 m2 n2 f2 g2 => ?_
    refine And.intro (more_ok (by omega)) ?_
    have a1 := unit_le (b := decide (1 < unit)) hu (show 0 ≤ 1 + w1 ∧ 1 + w1 < 20 by omega) (show 0 ≤ w2 ∧ w2 < 2 by omega)
    have a3 := pos_mul hu.1 (show 1 ≤ 1 + w1 by omega)
    have a4 : 0 ≤ w2 * (decide (1 < unit)).toInt := Int.mul_nonneg m2 (toInt_le _).1
    rw [show st + unit * (1 + w1) + w2 * (decide (1 < unit)).toInt = st + (unit * (1 + w1) + w2 * (decide (1 < unit)).toInt) by omega]
    have a5 : 1 ≤ unit * (1 + w1) + w2 * (decide (1 < unit)).toInt := by omega
    generalize unit * (1 + w1) + w2 * (decide (1 < unit)).toInt = A at a1 a5 ⊢
    have dm : mutAt ξ2 μ.length = some (ss.map stpV) := (f1.trans f2).mut d1 (by simp; omega)
    simp! only [b__law_one_wisp_3, dm]
    refine s_take (by omega) (by omega) (by omega) g2 fun w3 ξ3 m3 n3 f3 g3 => ?_
    refine And.intro (unit_ok hsp (by omega)) ?_
    refine s_take (by omega) (by omega) (by omega) g3 fun w4 ξ4 m4 n4 f4 g4 => ?_
    refine And.intro (more_ok (by omega)) ?_
    have c1 := unit_le (b := decide (1 < span)) hsp (show 0 ≤ 1 + w3 ∧ 1 + w3 < 20 by omega) (show 0 ≤ w4 ∧ w4 < 2 by omega)
    have c3 := pos_mul hsp.1 (show 1 ≤ 1 + w3 by omega)
    have c4 : 0 ≤ w4 * (decide (1 < span)).toInt := Int.mul_nonneg m4 (toInt_le _).1
    have c5 : 1 ≤ span * (1 + w3) + w4 * (decide (1 < span)).toInt := by omega
    generalize span * (1 + w3) + w4 * (decide (1 < span)).toInt = B at c1 c5 ⊢
    have F4 : Fr [p, o] ν ξ4 := (f1.trans f2).trans (f3.trans f4)
    have d1' : mutAt ξ4 μ.length = some (ss.map stpV) := F4.mut d1 (by simp; omega)
    have hlt : (ss.map stpV).length < sizeLine := by
      rw [List.length_map, d2]
      exact Nat.lt_trans hi (by decide)
    simp! only [d1']
    refine And.intro hlt ?_
    refine ⟨(st + A, B) :: ss, _, _, rfl, ?_, by simp [d2], by omega, by push_cast; omega, fun x hx => ?_, fun x hx => ?_, List.pairwise_cons.mpr ⟨fun x hx => ?_, d7⟩, (f.trans F4).setNew (Nat.le_refl _), (g4.mono (by omega)).fr (S := [μ.length]) (Fr.set (by simp)) (by simp; omega) (by simp; omega)⟩
    · rw [mut_set (mut_lt d1')]
      rfl
    · rcases List.mem_cons.mp hx with rfl | hx
      · exact ⟨by show 1 ≤ st + A; omega, Int.le_refl _⟩
      · have := d5 x hx; omega
    · rcases List.mem_cons.mp hx with rfl | hx
      · exact ⟨c5, c1.2⟩
      · exact d6 x hx
    · have := d5 x hx
      show x.1 < st + A
      omega
  · rintro σ ν ⟨ss, st, y6, rfl, d1, d2, d3, d4, d5, d6, d7, f, g⟩
    rw [List.length_map, List.length_range] at d2 d4 g
    refine ⟨trivial, ?_⟩
    simp! only [b__law_one_wisp_4]
    refine s_take (by omega) (by omega) (by omega) g fun w1 ξ1 m1 n1 f1 g1 => ?_
    have e1' : lstAt ξ1 μ.length = some (ss.map stpV) := f1.lst (mut_lst d1) (by simp; omega)
    simp! only [e1']
    refine q (w1, ss) ξ1 ⟨m1, by show w1 ≤ 1; omega, fun hz => ?_, by show ss.length ≤ 8; omega, fun x hx => ?_, fun x hx => ?_, d7⟩ (by show (ss.length : Int) ≤ _; omega) (f.trans f1) (g1.mono (by omega))
    · have hz : ss = [] := hz
      rw [hz] at d2; simp at d2; omega
    · have := d5 x hx
      exact ⟨this.1, by omega⟩
    · have := d6 x hx
      exact ⟨this.1, by omega⟩
/-- a laid wisp as it is drawn here -/
def DrL (x : Laid) : Prop := Drw (x.o, x.ss) ∧ 0 ≤ x.at_ ∧ x.at_ ≤ 600000000000000000000000000000000000000 ∧ ∀ l, x.let_ = some l → x.at_ < l ∧ l ≤ 600000000000000000000000000000000000000
theorem DrL.ok {x : Laid} (h : DrL x) : WOk x := h.1.ok x.at_ x.let_
theorem s_laid_ones {k N p o : Nat} {most : Int} {many : Nat} {μ : Mem} {Q : K1} (hN : N ≤ 10000000) (h : Pot N p o μ) (hn : many ≤ 60) (hm : 1 ≤ most ∧ most ≤ 8)
    (q : ∀ (xs : List Laid) ν, xs.length = many → (∀ x ∈ xs, DrL x ∧ x.ss.length ≤ max 2 most) → Fr [p, o] μ ν → Pot (N + 4000) p o ν → Q (.tup (xs.map Laid.v)) ν) : phi txt.F txt.G (k + 4) "_law_laid_ones" [.ref p, .int many, .int most] μ Q := by
  obtain ⟨hp, ho⟩ := h.lt
  rw [p__law_laid_ones]
  refine ⟨rfl, ?_⟩
  simp! only [b__law_laid_ones_0]
  refine s_of (by omega) (h.fr (S := []) Fr.app (by simp) (by simp)) lst_new (by simp) (by simp) (by omega) (by omega) fun j v1 ν1 hj f1 g1 => ?_
  have b1 : ∃ u : Int, v1 = .int u ∧ 1 ≤ u ∧ u ≤ 10000000000000000000000000000000000007 := by
    have cs := List.mem_of_getElem? hj
    simp only [List.mem_cons, List.not_mem_nil, or_false] at cs
    rcases cs with rfl | rfl | rfl <;> exact ⟨_, rfl, by omega, by omega⟩
  obtain ⟨unit, rfl, hu⟩ := b1
  have F1 : Fr [p, o] μ ν1 := (Fr.app (S := [p, o])).trans f1
  have hl1 := F1.1
  refine s_of (by omega) (g1.fr (S := []) Fr.app (by simp) (by simp)) lst_new (by simp) (by simp) (by omega) (by omega) fun j v2 ν2 hj f2 g2 => ?_
  have b2 : ∃ u : Int, v2 = .int u ∧ 1 ≤ u ∧ u ≤ 10000000000000000000000000000000000007 := by
    have cs := List.mem_of_getElem? hj
    simp only [List.mem_cons, List.not_mem_nil, or_false] at cs
    rcases cs with rfl | rfl | rfl <;> exact ⟨_, rfl, by omega, by omega⟩
  obtain ⟨span, rfl, hsp⟩ := b2
  have F2 : Fr [p, o] μ ν2 := (F1.trans Fr.app).trans f2
  have hl2 := F2.1
  simp! only [b__law_laid_ones_1, b__law_laid_ones_2]
  refine And.intro (by omega) ?_
  rw [Int.toNat_natCast]
  refine frN_inv (phi_le _ _ (Nat.le_refl _)) (fun i σ ν => ∃ (xs : List Laid) (y6 y7 y8 y9 : Option Vl), σ = [some (.ref p), some (.int many), some (.int most), some (.int unit), some (.int span), some (.ref ν2.length), y6, y7, y8, y9] ∧ mutAt ν ν2.length = some (xs.map Laid.v) ∧ xs.length = i ∧ (∀ x ∈ xs, DrL x ∧ x.ss.length ≤ max 2 most) ∧ Fr [p, o] μ ν ∧ ν2.length < ν.length ∧ Pot (N + 2 + 60 * i) p o ν) ⟨[], _, _, _, _, rfl, mut_new, rfl, by simp, F2.appR, by simp, g2.fr (S := []) Fr.app (by simp) (by simp)⟩ ?_ ?_
  · rintro i z σ ν hz ⟨xs, y6, y7, y8, y9, rfl, d1, d2, d3, f, hlv, g⟩
    have hi : i < 60 := by
      have := (List.getElem?_eq_some_iff.mp hz).1
      rw [List.length_map, List.length_range] at this
      omega
    refine ⟨trivial, ?_⟩
    simp! only [b__law_laid_ones_3]
    refine s_one_wisp (by omega) g hu hsp hm fun w ξ1 hw hwl f1 g1 => ?_
    refine s_take (by omega) (by omega) (by omega) g1 fun w2 ξ2 m2 n2 f2 g2 => ?_
    refine And.intro (unit_ok hsp (by omega)) ?_
    refine s_take (by omega) (by omega) (by omega) g2 fun w3 ξ3 m3 n3 f3 g3 => ?_
    refine And.intro (more_ok (by omega)) ?_
    have a1 := unit_le (b := decide (1 < span)) hsp (show 0 ≤ w2 ∧ w2 < 20 by omega) (show 0 ≤ w3 ∧ w3 < 2 by omega)
    generalize span * w2 + w3 * (decide (1 < span)).toInt = at_ at a1 ⊢
    simp! only [b__law_laid_ones_4]
    refine s_take (by omega) (by omega) (by omega) g3 fun w4 ξ4 m4 n4 f4 g4 => ?_
    refine And.intro (unit_ok hsp (by omega)) ?_
    have c1 := unit_le (b := false) hsp (show 0 ≤ w4 ∧ w4 < 20 by omega) (show (0 : Int) ≤ 0 ∧ (0 : Int) < 2 by omega)
    have c2 : (0 : Int) * false.toInt = 0 := Int.zero_mul _
    rw [c2, Int.add_zero] at c1
    generalize span * w4 = B at c1 ⊢
    have F4 : Fr [p, o] ν ξ4 := (f1.trans f2).trans (f3.trans f4)
    have hl4 := F4.1
    have dm : mutAt ξ4 ν2.length = some (xs.map Laid.v) := F4.mut d1 (by simp; omega)
    simp! only [b__law_laid_ones_5, dm]
    refine s_of (by omega) (g4.fr (S := []) Fr.app (by simp) (by simp)) lst_new (by simp) (by simp) (by omega) (by omega) fun j v5 ξ5 hj f5 g5 => ?_
    have b5 : ∃ l : Option Int, v5 = dfV l ∧ ∀ c, l = some c → at_ < c ∧ c ≤ 600000000000000000000000000000000000000 := by
      have cs := List.mem_of_getElem? hj
      simp only [List.mem_cons, List.not_mem_nil, or_false] at cs
      rcases cs with rfl | rfl | rfl
      · exact ⟨none, rfl, fun c z => by cases z⟩
      · exact ⟨none, rfl, fun c z => by cases z⟩
      · exact ⟨some _, rfl, fun c z => by cases z; omega⟩
    obtain ⟨l, rfl, hl⟩ := b5
    have F5 : Fr [p, o] ν ξ5 := (F4.appR).trans f5
    have d1' : mutAt ξ5 ν2.length = some (xs.map Laid.v) := F5.mut d1 (by simp; omega)
    have hlt : (xs.map Laid.v).length < sizeLine := by
      rw [List.length_map, d2]
      exact Nat.lt_trans hi (by decide)
    simp! only [d1']
    refine And.intro hlt ?_
    refine ⟨xs ++ [⟨w.1, w.2, at_, l⟩], _, _, _, _, rfl, ?_, by simp [d2], fun x hx => ?_, (f.trans F5).setNew (by omega), by have := F5.1; omega, (g5.mono (by omega)).fr (S := [ν2.length]) (Fr.set (by simp)) (by simp; omega) (by simp; omega)⟩
    · rw [mut_set (mut_lt d1'), List.map_append]
      show _ = some (xs.map Laid.v ++ [Vl.tup [wspV w.1 w.2, .int at_, Laid.lv ⟨w.1, w.2, at_, l⟩]])
      rw [lv_df]
      rfl
    · rcases List.mem_append.mp hx with hx | hx
      · exact d3 x hx
      · rw [List.mem_singleton.mp hx]
        exact ⟨⟨hw, a1.1, by show at_ ≤ _; omega, hl⟩, hwl⟩
  · rintro σ ν ⟨xs, y6, y7, y8, y9, rfl, d1, d2, d3, f, hlv, g⟩
    rw [List.length_map, List.length_range] at d2 g
    refine ⟨trivial, ?_⟩
    simp! only [b__law_laid_ones_6, mut_lst d1]
    exact q xs ν d2 d3 f (g.mono (by omega))
end PV

set_option exponentiation.threshold 2000
namespace PV
open PySem PySem.Spec PyProof.Rows L2
theorem zw_map : ∀ (vs ws : List Vl), List.zipWith (fun v w => Vl.tup [v, w]) vs ws = (List.zip vs ws).map fun p => Vl.tup [p.1, p.2]
  | [], _ => by simp
  | _ :: _, [] => by simp
  | v :: vs, w :: ws => by rw [List.zipWith_cons_cons, zw_map vs ws]; rfl
theorem filterMap_b {α β : Type} (g : α → β) : ∀ xs : List α, (xs.filterMap fun x => some (g x)) = xs.map g
  | [] => rfl
  | x :: xs => by rw [List.filterMap_cons, filterMap_b g xs]; rfl
theorem optAll_bools {α : Type} (g : α → Bool) : ∀ xs : List α, optAll boolOf (xs.map fun x => Vl.bool (g x)) = some (xs.map g)
  | [] => rfl
  | x :: xs => by simp only [List.map_cons, optAll, boolOf, optAll_bools g xs]
theorem strong_law {x : Laid} (h : WOk x) (p : Int) : x.strong p = if x.at_ ≤ p ∧ (∀ l, x.let_ = some l → p < l) then thk 0 x.ss (p - x.at_) else 0 := by
  have hz : ¬ p < x.at_ + longs x.ss → thk 0 x.ss (p - x.at_) = 0 := fun z => thk_zero _ _ _ (fun y hy => (h.pos y hy).2) (by omega)
  have ho : x.over = match x.let_ with
    | .none => x.at_ + longs x.ss
    | .some l => min (x.at_ + longs x.ss) l := rfl
  by_cases c1 : x.at_ ≤ p
  · cases hl : x.let_ with
    | none =>
      rw [hl] at ho
      simp only at ho
      rw [if_pos ⟨c1, fun l z => by cases z⟩]
      by_cases c2 : p < x.over
      · exact strong_on c1 c2
      · rw [strong_off (.inl (by omega)), hz (by omega)]
    | some l =>
      rw [hl] at ho
      simp only at ho
      by_cases c3 : p < l
      · rw [if_pos ⟨c1, fun m z => by cases z; exact c3⟩]
        by_cases c2 : p < x.over
        · exact strong_on c1 c2
        · rw [strong_off (.inl (by omega)), hz (by omega)]
      · rw [if_neg fun z => c3 (z.2 l rfl), strong_off (.inl (by omega))]
  · rw [if_neg fun z => c1 z.1, strong_off (.inr (by omega))]
theorem strongs_snoc (p : Int) (xs : List Laid) (x : Laid) : strongs p (xs ++ [x]) = strongs p xs + x.strong p := by
  rw [strongs_app]
  unfold strongs
  simp
/-- the law's borders of a laid wisp -/
def Laid.bor (x : Laid) : List Int := x.at_ :: (x.let_.toList ++ stops x.at_ x.ss)
theorem chg_bor {x : Laid} (h : x.ss ≠ []) : ∀ c ∈ x.chg, c ∈ x.bor := by
  intro c hc
  have hl := stops_last x.ss x.at_ h
  unfold Laid.chg at hc
  unfold Laid.bor
  rcases List.mem_cons.mp hc with rfl | hc
  · exact List.mem_cons_self
  · obtain ⟨e, he, rfl⟩ := List.mem_map.mp hc
    refine List.mem_cons_of_mem _ (List.mem_append.mpr ?_)
    have ho : x.over = match x.let_ with
      | .none => x.at_ + longs x.ss
      | .some l => min (x.at_ + longs x.ss) l := rfl
    cases hlt : x.let_ with
    | none =>
      rw [hlt] at ho
      simp only at ho
      rw [ho]
      rcases Int.le_total e (x.at_ + longs x.ss) with c | c
      · rw [Int.min_eq_left c]; exact .inr he
      · rw [Int.min_eq_right c]; exact .inr hl
    | some l =>
      rw [hlt] at ho
      simp only at ho
      rw [ho]
      rcases Int.le_total (x.at_ + longs x.ss) l with c1 | c1
      · rw [Int.min_eq_left c1]
        rcases Int.le_total e (x.at_ + longs x.ss) with c | c
        · rw [Int.min_eq_left c]; exact .inr he
        · rw [Int.min_eq_right c]; exact .inr hl
      · rw [Int.min_eq_right c1]
        rcases Int.le_total e l with c | c
        · rw [Int.min_eq_left c]; exact .inr he
        · rw [Int.min_eq_right c]; exact .inl (by simp)
/-! how thick a laid wisp is by the law's own reckoning, the edges -/
theorem s_runs_so {k : Nat} {x : Laid} {p : Int} {μ : Mem} {Q : K1} (h : WOk x) (q : Q (.int (x.strong p)) μ) : phi txt.F txt.G (k + 1) "_law_runs_so" [x.v, .int p] μ Q := by
  rw [p__law_runs_so]
  refine ⟨rfl, ?_⟩
  have e := strong_law h p
  generalize x.strong p = g at e q
  obtain ⟨o, ss, a, l⟩ := x
  simp only [Laid.v, Laid.lv]
  simp only at e
  have loop : ∀ lv : Vl, g = thk 0 ss (p - a) → wB (phi txt.F txt.G k) txt.G b__law_runs_so_4 ⟨fun _ μ1 => Q .none μ1, Q, fun _ _ => False, fun _ _ => False⟩ [some (.tup [wspV o ss, .int a, lv]), some (.int p), some (wspV o ss), some (.int a), some lv, some (.int (p - a)), none, none] μ := by
    intro lv eg
    generalize hL : Vl.tup [wspV o ss, .int a, lv] = L
    clear hL
    simp! only [wspV, b__law_runs_so_4, srcOf]
    refine frN_inv (phi_le _ _ (Nat.le_refl _)) (fun i σ ν => ∃ (m : Int) (y z : Option Vl), σ = [some L, some (.int p), some (.tup [.int o, .tup (ss.map stpV)]), some (.int a), some lv, some (.int m), y, z] ∧ g = thk 0 (ss.drop i) m ∧ ν = μ) ⟨p - a, _, _, rfl, by simpa using eg, rfl⟩ ?_ ?_
    · rintro i x σ ν hx ⟨m, y, z, rfl, e, rfl⟩
      rw [List.getElem?_map, Option.map_eq_some_iff] at hx
      obtain ⟨⟨s, l⟩, hw, rfl⟩ := hx
      obtain ⟨hi, hw⟩ := List.getElem?_eq_some_iff.mp hw
      rw [List.drop_eq_getElem_cons hi, hw] at e
      refine ⟨trivial, ?_⟩
      simp! only [stpV, b__law_runs_so_5]
      rw [thk, Int.zero_add] at e
      by_cases h : m < l
      · rw [if_pos h] at e
        simp only [h, wB, wS.eq_1, wS.eq_2, wS.eq_3, wS.eq_4, wS.eq_5, wS.eq_6, wS.eq_7, wS.eq_8, wS.eq_9, wS.eq_10, wS.eq_13, wS.eq_14, wS.eq_15, wS.eq_16, wS.eq_18, wS_fr, wS_whl, thD_none, wE.eq_1, wE.eq_2, wE.eq_3, wE.eq_4, wE.eq_5, wE.eq_6, wE.eq_7, wE.eq_8, wE.eq_9, wE.eq_10, wE.eq_11, wE.eq_12, wE.eq_13, wE.eq_14, wE.eq_15, wE.eq_16, wE.eq_17, wE.eq_18, wE.eq_19, wE_lc, wE.eq_21, wE.eq_22, wE.eq_23, wE.eq_24, wE.eq_25, wE.eq_26, wE.eq_27, wE.eq_28, wE.eq_29, wE.eq_30, wE.eq_31, wE.eq_32, wEs, wFs, smW, wDs, dkW, dixW, dstW, dgtW, isDct, dmW, kOf, dnW, inW, dinxW, dsnW, Bool.or_true, Bool.true_or, Bool.false_or, wO, wI, getS, setS, setsS, startS, clrS, clrsS, binW, cmpW, bfW, idxW, slcW, mfW, x1W, getW, augW, asgW, asgsW, unpW, tst, truth, seqOf, isNone, isLst, stoW, List.map_cons, List.map_nil, List.length_cons, List.length_nil, List.replicate, List.cons_append, List.nil_append, List.append_nil, Nat.reduceAdd, Nat.reduceSub, if_true, if_false, decide_eq_true_eq, Nat.zero_add, true_and, Option.isSome_some, Option.isSome_none, Bool.true_eq_false, Bool.false_eq_true, ixs, atIs, eqV_int, isTy, intOf, boolOf,  atI_last, List.getElem?_cons_zero, List.getElem?_cons_succ, List.set_cons_zero, List.set_cons_succ, List.set_set, Int.reduceAbs, Nat.reducePow, Int.reduceToNat, Int.reducePow, Int.reduceMul, Int.reduceAdd, Int.reduceSub, Int.reduceNeg, Int.cast_ofNat_Int, Int.reduceEq, eq_self, Int.reduceLT, Int.reduceLE, Nat.reduceLT, Nat.reduceLeDiff, decide_true, decide_false, Bool.not_true, Bool.not_false, and_true, List.length_set, mut_set, lst_set, mut_new, lst_new, mut_new2, lst_new2, mut_new3, lst_new3, set_new, szs, isDisp, b__law_runs_so_6]
        rw [e] at q
        exact q
      · rw [if_neg h] at e
        simp only [h, wB, wS.eq_1, wS.eq_2, wS.eq_3, wS.eq_4, wS.eq_5, wS.eq_6, wS.eq_7, wS.eq_8, wS.eq_9, wS.eq_10, wS.eq_13, wS.eq_14, wS.eq_15, wS.eq_16, wS.eq_18, wS_fr, wS_whl, thD_none, wE.eq_1, wE.eq_2, wE.eq_3, wE.eq_4, wE.eq_5, wE.eq_6, wE.eq_7, wE.eq_8, wE.eq_9, wE.eq_10, wE.eq_11, wE.eq_12, wE.eq_13, wE.eq_14, wE.eq_15, wE.eq_16, wE.eq_17, wE.eq_18, wE.eq_19, wE_lc, wE.eq_21, wE.eq_22, wE.eq_23, wE.eq_24, wE.eq_25, wE.eq_26, wE.eq_27, wE.eq_28, wE.eq_29, wE.eq_30, wE.eq_31, wE.eq_32, wEs, wFs, smW, wDs, dkW, dixW, dstW, dgtW, isDct, dmW, kOf, dnW, inW, dinxW, dsnW, Bool.or_true, Bool.true_or, Bool.false_or, wO, wI, getS, setS, setsS, startS, clrS, clrsS, binW, cmpW, bfW, idxW, slcW, mfW, x1W, getW, augW, asgW, asgsW, unpW, tst, truth, seqOf, isNone, isLst, stoW, List.map_cons, List.map_nil, List.length_cons, List.length_nil, List.replicate, List.cons_append, List.nil_append, List.append_nil, Nat.reduceAdd, Nat.reduceSub, if_true, if_false, decide_eq_true_eq, Nat.zero_add, true_and, Option.isSome_some, Option.isSome_none, Bool.true_eq_false, Bool.false_eq_true, ixs, atIs, eqV_int, isTy, intOf, boolOf,  atI_last, List.getElem?_cons_zero, List.getElem?_cons_succ, List.set_cons_zero, List.set_cons_succ, List.set_set, Int.reduceAbs, Nat.reducePow, Int.reduceToNat, Int.reducePow, Int.reduceMul, Int.reduceAdd, Int.reduceSub, Int.reduceNeg, Int.cast_ofNat_Int, Int.reduceEq, eq_self, Int.reduceLT, Int.reduceLE, Nat.reduceLT, Nat.reduceLeDiff, decide_true, decide_false, Bool.not_true, Bool.not_false, and_true, List.length_set, mut_set, lst_set, mut_new, lst_new, mut_new2, lst_new2, mut_new3, lst_new3, set_new, szs, isDisp, b__law_runs_so_7]
        refine ⟨_, _, _, rfl, ?_⟩
        rw [e, ← thk_shift 0 l (m - l)]
        congr 1 <;> omega
    · rintro σ ν ⟨m, y, z, rfl, e, rfl⟩
      refine ⟨trivial, ?_⟩
      rw [List.length_map, List.drop_length] at e
      simp! only [b__law_runs_so_8]
      rw [show g = 0 from e] at q
      exact q
  by_cases c : p - a < 0
  · rw [if_neg fun z => by have := z.1; omega] at e
    rw [e] at q
    cases l with
    | none =>
      simp only [c, wB, wS.eq_1, wS.eq_2, wS.eq_3, wS.eq_4, wS.eq_5, wS.eq_6, wS.eq_7, wS.eq_8, wS.eq_9, wS.eq_10, wS.eq_13, wS.eq_14, wS.eq_15, wS.eq_16, wS.eq_18, wS_fr, wS_whl, thD_none, wE.eq_1, wE.eq_2, wE.eq_3, wE.eq_4, wE.eq_5, wE.eq_6, wE.eq_7, wE.eq_8, wE.eq_9, wE.eq_10, wE.eq_11, wE.eq_12, wE.eq_13, wE.eq_14, wE.eq_15, wE.eq_16, wE.eq_17, wE.eq_18, wE.eq_19, wE_lc, wE.eq_21, wE.eq_22, wE.eq_23, wE.eq_24, wE.eq_25, wE.eq_26, wE.eq_27, wE.eq_28, wE.eq_29, wE.eq_30, wE.eq_31, wE.eq_32, wEs, wFs, smW, wDs, dkW, dixW, dstW, dgtW, isDct, dmW, kOf, dnW, inW, dinxW, dsnW, Bool.or_true, Bool.true_or, Bool.false_or, wO, wI, getS, setS, setsS, startS, clrS, clrsS, binW, cmpW, bfW, idxW, slcW, mfW, x1W, getW, augW, asgW, asgsW, unpW, tst, truth, seqOf, isNone, isLst, stoW, List.map_cons, List.map_nil, List.length_cons, List.length_nil, List.replicate, List.cons_append, List.nil_append, List.append_nil, Nat.reduceAdd, Nat.reduceSub, if_true, if_false, decide_eq_true_eq, Nat.zero_add, true_and, Option.isSome_some, Option.isSome_none, Bool.true_eq_false, Bool.false_eq_true, ixs, atIs, eqV_int, isTy, intOf, boolOf,  atI_last, List.getElem?_cons_zero, List.getElem?_cons_succ, List.set_cons_zero, List.set_cons_succ, List.set_set, Int.reduceAbs, Nat.reducePow, Int.reduceToNat, Int.reducePow, Int.reduceMul, Int.reduceAdd, Int.reduceSub, Int.reduceNeg, Int.cast_ofNat_Int, Int.reduceEq, eq_self, Int.reduceLT, Int.reduceLE, Nat.reduceLT, Nat.reduceLeDiff, decide_true, decide_false, Bool.not_true, Bool.not_false, and_true, List.length_set, mut_set, lst_set, mut_new, lst_new, mut_new2, lst_new2, mut_new3, lst_new3, set_new, szs, isDisp, b__law_runs_so_0, b__law_runs_so_1, b__law_runs_so_2, b__law_runs_so_3]
      exact q
    | some l =>
      simp only [c, wB, wS.eq_1, wS.eq_2, wS.eq_3, wS.eq_4, wS.eq_5, wS.eq_6, wS.eq_7, wS.eq_8, wS.eq_9, wS.eq_10, wS.eq_13, wS.eq_14, wS.eq_15, wS.eq_16, wS.eq_18, wS_fr, wS_whl, thD_none, wE.eq_1, wE.eq_2, wE.eq_3, wE.eq_4, wE.eq_5, wE.eq_6, wE.eq_7, wE.eq_8, wE.eq_9, wE.eq_10, wE.eq_11, wE.eq_12, wE.eq_13, wE.eq_14, wE.eq_15, wE.eq_16, wE.eq_17, wE.eq_18, wE.eq_19, wE_lc, wE.eq_21, wE.eq_22, wE.eq_23, wE.eq_24, wE.eq_25, wE.eq_26, wE.eq_27, wE.eq_28, wE.eq_29, wE.eq_30, wE.eq_31, wE.eq_32, wEs, wFs, smW, wDs, dkW, dixW, dstW, dgtW, isDct, dmW, kOf, dnW, inW, dinxW, dsnW, Bool.or_true, Bool.true_or, Bool.false_or, wO, wI, getS, setS, setsS, startS, clrS, clrsS, binW, cmpW, bfW, idxW, slcW, mfW, x1W, getW, augW, asgW, asgsW, unpW, tst, truth, seqOf, isNone, isLst, stoW, List.map_cons, List.map_nil, List.length_cons, List.length_nil, List.replicate, List.cons_append, List.nil_append, List.append_nil, Nat.reduceAdd, Nat.reduceSub, if_true, if_false, decide_eq_true_eq, Nat.zero_add, true_and, Option.isSome_some, Option.isSome_none, Bool.true_eq_false, Bool.false_eq_true, ixs, atIs, eqV_int, isTy, intOf, boolOf,  atI_last, List.getElem?_cons_zero, List.getElem?_cons_succ, List.set_cons_zero, List.set_cons_succ, List.set_set, Int.reduceAbs, Nat.reducePow, Int.reduceToNat, Int.reducePow, Int.reduceMul, Int.reduceAdd, Int.reduceSub, Int.reduceNeg, Int.cast_ofNat_Int, Int.reduceEq, eq_self, Int.reduceLT, Int.reduceLE, Nat.reduceLT, Nat.reduceLeDiff, decide_true, decide_false, Bool.not_true, Bool.not_false, and_true, List.length_set, mut_set, lst_set, mut_new, lst_new, mut_new2, lst_new2, mut_new3, lst_new3, set_new, szs, isDisp, b__law_runs_so_0, b__law_runs_so_1, b__law_runs_so_2, b__law_runs_so_3]
      exact q
  · cases l with
    | none =>
      rw [if_pos ⟨by omega, fun m z => by cases z⟩] at e
      simp only [c, wB, wS.eq_1, wS.eq_2, wS.eq_3, wS.eq_4, wS.eq_5, wS.eq_6, wS.eq_7, wS.eq_8, wS.eq_9, wS.eq_10, wS.eq_13, wS.eq_14, wS.eq_15, wS.eq_16, wS.eq_18, wS_fr, wS_whl, thD_none, wE.eq_1, wE.eq_2, wE.eq_3, wE.eq_4, wE.eq_5, wE.eq_6, wE.eq_7, wE.eq_8, wE.eq_9, wE.eq_10, wE.eq_11, wE.eq_12, wE.eq_13, wE.eq_14, wE.eq_15, wE.eq_16, wE.eq_17, wE.eq_18, wE.eq_19, wE_lc, wE.eq_21, wE.eq_22, wE.eq_23, wE.eq_24, wE.eq_25, wE.eq_26, wE.eq_27, wE.eq_28, wE.eq_29, wE.eq_30, wE.eq_31, wE.eq_32, wEs, wFs, smW, wDs, dkW, dixW, dstW, dgtW, isDct, dmW, kOf, dnW, inW, dinxW, dsnW, Bool.or_true, Bool.true_or, Bool.false_or, wO, wI, getS, setS, setsS, startS, clrS, clrsS, binW, cmpW, bfW, idxW, slcW, mfW, x1W, getW, augW, asgW, asgsW, unpW, tst, truth, seqOf, isNone, isLst, stoW, List.map_cons, List.map_nil, List.length_cons, List.length_nil, List.replicate, List.cons_append, List.nil_append, List.append_nil, Nat.reduceAdd, Nat.reduceSub, if_true, if_false, decide_eq_true_eq, Nat.zero_add, true_and, Option.isSome_some, Option.isSome_none, Bool.true_eq_false, Bool.false_eq_true, ixs, atIs, eqV_int, isTy, intOf, boolOf,  atI_last, List.getElem?_cons_zero, List.getElem?_cons_succ, List.set_cons_zero, List.set_cons_succ, List.set_set, Int.reduceAbs, Nat.reducePow, Int.reduceToNat, Int.reducePow, Int.reduceMul, Int.reduceAdd, Int.reduceSub, Int.reduceNeg, Int.cast_ofNat_Int, Int.reduceEq, eq_self, Int.reduceLT, Int.reduceLE, Nat.reduceLT, Nat.reduceLeDiff, decide_true, decide_false, Bool.not_true, Bool.not_false, and_true, List.length_set, mut_set, lst_set, mut_new, lst_new, mut_new2, lst_new2, mut_new3, lst_new3, set_new, szs, isDisp, b__law_runs_so_0, b__law_runs_so_1, b__law_runs_so_2]
      exact loop _ e
    | some l =>
      by_cases c2 : l ≤ p
      · rw [if_neg fun z => by have := z.2 l rfl; omega] at e
        rw [e] at q
        simp only [c, c2, wB, wS.eq_1, wS.eq_2, wS.eq_3, wS.eq_4, wS.eq_5, wS.eq_6, wS.eq_7, wS.eq_8, wS.eq_9, wS.eq_10, wS.eq_13, wS.eq_14, wS.eq_15, wS.eq_16, wS.eq_18, wS_fr, wS_whl, thD_none, wE.eq_1, wE.eq_2, wE.eq_3, wE.eq_4, wE.eq_5, wE.eq_6, wE.eq_7, wE.eq_8, wE.eq_9, wE.eq_10, wE.eq_11, wE.eq_12, wE.eq_13, wE.eq_14, wE.eq_15, wE.eq_16, wE.eq_17, wE.eq_18, wE.eq_19, wE_lc, wE.eq_21, wE.eq_22, wE.eq_23, wE.eq_24, wE.eq_25, wE.eq_26, wE.eq_27, wE.eq_28, wE.eq_29, wE.eq_30, wE.eq_31, wE.eq_32, wEs, wFs, smW, wDs, dkW, dixW, dstW, dgtW, isDct, dmW, kOf, dnW, inW, dinxW, dsnW, Bool.or_true, Bool.true_or, Bool.false_or, wO, wI, getS, setS, setsS, startS, clrS, clrsS, binW, cmpW, bfW, idxW, slcW, mfW, x1W, getW, augW, asgW, asgsW, unpW, tst, truth, seqOf, isNone, isLst, stoW, List.map_cons, List.map_nil, List.length_cons, List.length_nil, List.replicate, List.cons_append, List.nil_append, List.append_nil, Nat.reduceAdd, Nat.reduceSub, if_true, if_false, decide_eq_true_eq, Nat.zero_add, true_and, Option.isSome_some, Option.isSome_none, Bool.true_eq_false, Bool.false_eq_true, ixs, atIs, eqV_int, isTy, intOf, boolOf,  atI_last, List.getElem?_cons_zero, List.getElem?_cons_succ, List.set_cons_zero, List.set_cons_succ, List.set_set, Int.reduceAbs, Nat.reducePow, Int.reduceToNat, Int.reducePow, Int.reduceMul, Int.reduceAdd, Int.reduceSub, Int.reduceNeg, Int.cast_ofNat_Int, Int.reduceEq, eq_self, Int.reduceLT, Int.reduceLE, Nat.reduceLT, Nat.reduceLeDiff, decide_true, decide_false, Bool.not_true, Bool.not_false, and_true, List.length_set, mut_set, lst_set, mut_new, lst_new, mut_new2, lst_new2, mut_new3, lst_new3, set_new, szs, isDisp, b__law_runs_so_0, b__law_runs_so_1, b__law_runs_so_2, b__law_runs_so_3]
        exact q
      · rw [if_pos ⟨by omega, fun m z => by cases z; omega⟩] at e
        simp only [c, c2, wB, wS.eq_1, wS.eq_2, wS.eq_3, wS.eq_4, wS.eq_5, wS.eq_6, wS.eq_7, wS.eq_8, wS.eq_9, wS.eq_10, wS.eq_13, wS.eq_14, wS.eq_15, wS.eq_16, wS.eq_18, wS_fr, wS_whl, thD_none, wE.eq_1, wE.eq_2, wE.eq_3, wE.eq_4, wE.eq_5, wE.eq_6, wE.eq_7, wE.eq_8, wE.eq_9, wE.eq_10, wE.eq_11, wE.eq_12, wE.eq_13, wE.eq_14, wE.eq_15, wE.eq_16, wE.eq_17, wE.eq_18, wE.eq_19, wE_lc, wE.eq_21, wE.eq_22, wE.eq_23, wE.eq_24, wE.eq_25, wE.eq_26, wE.eq_27, wE.eq_28, wE.eq_29, wE.eq_30, wE.eq_31, wE.eq_32, wEs, wFs, smW, wDs, dkW, dixW, dstW, dgtW, isDct, dmW, kOf, dnW, inW, dinxW, dsnW, Bool.or_true, Bool.true_or, Bool.false_or, wO, wI, getS, setS, setsS, startS, clrS, clrsS, binW, cmpW, bfW, idxW, slcW, mfW, x1W, getW, augW, asgW, asgsW, unpW, tst, truth, seqOf, isNone, isLst, stoW, List.map_cons, List.map_nil, List.length_cons, List.length_nil, List.replicate, List.cons_append, List.nil_append, List.append_nil, Nat.reduceAdd, Nat.reduceSub, if_true, if_false, decide_eq_true_eq, Nat.zero_add, true_and, Option.isSome_some, Option.isSome_none, Bool.true_eq_false, Bool.false_eq_true, ixs, atIs, eqV_int, isTy, intOf, boolOf,  atI_last, List.getElem?_cons_zero, List.getElem?_cons_succ, List.set_cons_zero, List.set_cons_succ, List.set_set, Int.reduceAbs, Nat.reducePow, Int.reduceToNat, Int.reducePow, Int.reduceMul, Int.reduceAdd, Int.reduceSub, Int.reduceNeg, Int.cast_ofNat_Int, Int.reduceEq, eq_self, Int.reduceLT, Int.reduceLE, Nat.reduceLT, Nat.reduceLeDiff, decide_true, decide_false, Bool.not_true, Bool.not_false, and_true, List.length_set, mut_set, lst_set, mut_new, lst_new, mut_new2, lst_new2, mut_new3, lst_new3, set_new, szs, isDisp, b__law_runs_so_0, b__law_runs_so_1, b__law_runs_so_2]
        exact loop _ e
theorem s_sum_at {k : Nat} {xs : List Laid} {p : Int} {μ : Mem} {Q : K1} (hx : ∀ x ∈ xs, WOk x) (hl : xs.length ≤ 1000) (q : ∀ ν, Fr [] μ ν → Q (.int (strongs p xs)) ν) : phi txt.F txt.G (k + 2) "_law_sum_at" [.tup (xs.map Laid.v), .int p] μ Q := by
  rw [p__law_sum_at]
  refine ⟨rfl, ?_⟩
  simp! only [b__law_sum_at_0, srcOf]
  refine lcN_mapA (phi_le _ _ (Nat.le_refl _)) (fun x : Laid => some (.int (x.strong p))) trivial (Nat.le_trans hl (by decide)) (fun x hxm ν1 f1 => ?_) fun ν1 f1 e1 => ?_
  · simp! only [true_and]
    exact ⟨Fr.refl, s_runs_so (hx x hxm) ⟨Fr.refl, rfl⟩⟩
  · rw [filterMap_b] at e1
    have e2 : xs.map (fun x => Vl.int (x.strong p)) = (xs.map fun x => x.strong p).map Vl.int := by rw [List.map_map]; rfl
    rw [e2] at e1
    simp! only [mut_lst e1, optAll_intOf]
    exact q ν1 f1
theorem rep01 (v : Vl) (b : Bool) : (List.replicate b.toInt.toNat [v]).flatten = if b = true then [v] else [] := by cases b <;> rfl
theorem s_edges {k : Nat} {xs : List Laid} {μ : Mem} {Q : K1} (hx : ∀ x ∈ xs, WOk x) (hl : xs.length ≤ 300)
    (q : ∀ (ms : List Int) (R : Nat) (ν : Mem), ms.Pairwise (· < ·) → (∀ c, c ∈ ms ↔ c = 0 ∨ ∃ x ∈ xs, c ∈ x.bor) → ms.length ≤ 1 + 10 * xs.length → Fr [] μ ν → mutAt ν R = some (ms.map Vl.int) → μ.length ≤ R → Q (.ref R) ν) : phi txt.F txt.G (k + 1) "_law_edges" [.tup (xs.map Laid.v)] μ Q := by
  rw [p__law_edges]
  refine ⟨rfl, ?_⟩
  simp! only [b__law_edges_0, b__law_edges_1, srcOf]
  refine frN_inv (phi_le _ _ (Nat.le_refl _)) (fun i σ ν => ∃ (acc : List Int) (y2 y3 y4 y5 y6 : Option Vl), σ = [some (.tup (xs.map Laid.v)), some (.ref μ.length), y2, y3, y4, y5, y6] ∧ mutAt ν μ.length = some (acc.map Vl.int) ∧ (∀ c, c ∈ acc ↔ c = 0 ∨ ∃ x ∈ xs.take i, c ∈ x.bor) ∧ acc.length ≤ 1 + 10 * i ∧ Fr [] μ ν) ⟨[0], _, _, _, _, _, rfl, mut_new, by simp, by simp, Fr.app⟩ ?_ ?_
  · rintro i z σ ν hz ⟨acc, y2, y3, y4, y5, y6, rfl, d1, d2, d3, f⟩
    rw [List.getElem?_map, Option.map_eq_some_iff] at hz
    obtain ⟨x, hxi, rfl⟩ := hz
    have hxm := List.mem_of_getElem? hxi
    have ok := hx x hxm
    have hi := (List.getElem?_eq_some_iff.mp hxi).1
    have tk : xs.take (i + 1) = xs.take i ++ [x] := by rw [List.take_succ, hxi]; rfl
    have h8 := ok.len
    refine ⟨trivial, ?_⟩
    have small : ∀ n : Nat, n ≤ 1 + 10 * i + 10 → n < sizeLine := fun n h => Nat.lt_of_le_of_lt (show _ ≤ 11000 by omega) (by decide)
    have loop : ∀ (ac0 : List Int) (ξ : Mem) (bk : Sg → Mem → Prop) (lv : Vl), mutAt ξ μ.length = some (ac0.map Vl.int) → (∀ c, c ∈ ac0 ∨ c ∈ stops x.at_ x.ss ↔ c ∈ acc ∨ c ∈ x.bor) → ac0.length ≤ 1 + 10 * i + 2 → Fr [] μ ξ →
        wB (phi txt.F txt.G k) txt.G b__law_edges_3 ⟨fun σ ν => ∃ (acc : List Int) (y2 y3 y4 y5 y6 : Option Vl), σ = [some (.tup (xs.map Laid.v)), some (.ref μ.length), y2, y3, y4, y5, y6] ∧ mutAt ν μ.length = some (acc.map Vl.int) ∧ (∀ c, c ∈ acc ↔ c = 0 ∨ ∃ x ∈ xs.take (i + 1), c ∈ x.bor) ∧ acc.length ≤ 1 + 10 * (i + 1) ∧ Fr [] μ ν, Q, bk, fun σ ν => ∃ (acc : List Int) (y2 y3 y4 y5 y6 : Option Vl), σ = [some (.tup (xs.map Laid.v)), some (.ref μ.length), y2, y3, y4, y5, y6] ∧ mutAt ν μ.length = some (acc.map Vl.int) ∧ (∀ c, c ∈ acc ↔ c = 0 ∨ ∃ x ∈ xs.take (i + 1), c ∈ x.bor) ∧ acc.length ≤ 1 + 10 * (i + 1) ∧ Fr [] μ ν⟩ [some (.tup (xs.map Laid.v)), some (.ref μ.length), some (wspV x.o x.ss), some (.int x.at_), some lv, y5, y6] ξ := by
      intro ac0 ξ bk lv g1 g3 g4 fx
      simp! only [wspV, b__law_edges_3, srcOf]
      refine frN_inv (phi_le _ _ (Nat.le_refl _)) (fun j σ ν => ∃ (ac : List Int) (pl : Int) (y5 y6 : Option Vl), σ = [some (.tup (xs.map Laid.v)), some (.ref μ.length), some (.tup [.int x.o, .tup (x.ss.map stpV)]), some (.int pl), some lv, y5, y6] ∧ mutAt ν μ.length = some (ac.map Vl.int) ∧ (∀ c, (c ∈ ac ∨ c ∈ stops pl (x.ss.drop j)) ↔ (c ∈ acc ∨ c ∈ x.bor)) ∧ ac.length ≤ 1 + 10 * i + 2 + j ∧ Fr [] μ ν) ⟨ac0, x.at_, _, _, rfl, g1, by rw [List.drop_zero]; exact g3, g4, fx⟩ ?_ ?_
      · rintro j z σ ν hz ⟨ac, pl, y5, y6, rfl, g1, g3, g4, f4⟩
        rw [List.getElem?_map, Option.map_eq_some_iff] at hz
        obtain ⟨⟨s, l⟩, hw, rfl⟩ := hz
        obtain ⟨hj, hw⟩ := List.getElem?_eq_some_iff.mp hw
        rw [List.drop_eq_getElem_cons hj, hw] at g3
        refine ⟨trivial, ?_⟩
        have l4 := mut_lt g1
        simp! only [stpV, b__law_edges_4, b__law_edges_5, g1]
        refine And.intro (small _ (by rw [List.length_map]; omega)) ?_
        refine ⟨ac ++ [pl + l], pl + l, _, _, rfl, by rw [mut_set l4, List.map_append]; rfl, fun c => ?_, by simp; omega, f4.setNew (Nat.le_refl _)⟩
        rw [← g3 c, List.mem_append, List.mem_singleton, stops, List.mem_cons]
        constructor
        · rintro ((a | a) | a)
          · exact .inl a
          · exact .inr (.inl a)
          · exact .inr (.inr a)
        · rintro (a | a | a)
          · exact .inl (.inl a)
          · exact .inl (.inr a)
          · exact .inr a
      · rintro σ ν ⟨ac, pl, y5, y6, rfl, g1, g3, g4, f4⟩
        rw [List.length_map] at g3 g4
        rw [List.drop_length] at g3
        refine ⟨trivial, ac, _, _, _, _, _, rfl, g1, fun c => ?_, ?_, f4⟩
        · have := g3 c
          simp only [stops, List.not_mem_nil, or_false] at this
          rw [this, tk, d2 c]
          constructor
          · rintro ((rfl | ⟨y, hy, h⟩) | h)
            · exact .inl rfl
            · exact .inr ⟨y, List.mem_append_left _ hy, h⟩
            · exact .inr ⟨x, List.mem_append_right _ (by simp), h⟩
          · rintro (rfl | ⟨y, hy, h⟩)
            · exact .inl (.inl rfl)
            · rcases List.mem_append.mp hy with hy | hy
              · exact .inl (.inr ⟨y, hy, h⟩)
              · rw [List.mem_singleton.mp hy] at h
                exact .inr h
        · omega
    have hv : x.v = .tup [wspV x.o x.ss, .int x.at_, x.lv] := rfl
    have l1 := mut_lt d1
    have hb : x.bor = x.at_ :: (x.let_.toList ++ stops x.at_ x.ss) := rfl
    have cz : ∀ m : Nat, m ≤ 10000 → m ≤ sizeLine := fun m h => Nat.le_trans h (by decide)
    cases hlt : x.let_ with
    | none =>
      have lv0 : x.lv = .none := by unfold Laid.lv; rw [hlt]
      simp! only [hv, lv0, b__law_edges_2, d1]
      have r0 : (List.replicate false.toInt.toNat [Vl.none]).flatten = [] := rfl
      simp only [r0, wB, wS.eq_1, wS.eq_2, wS.eq_3, wS.eq_4, wS.eq_5, wS.eq_6, wS.eq_7, wS.eq_8, wS.eq_9, wS.eq_10, wS.eq_13, wS.eq_14, wS.eq_15, wS.eq_16, wS.eq_18, wS_fr, wS_whl, thD_none, wE.eq_1, wE.eq_2, wE.eq_3, wE.eq_4, wE.eq_5, wE.eq_6, wE.eq_7, wE.eq_8, wE.eq_9, wE.eq_10, wE.eq_11, wE.eq_12, wE.eq_13, wE.eq_14, wE.eq_15, wE.eq_16, wE.eq_17, wE.eq_18, wE.eq_19, wE_lc, wE.eq_21, wE.eq_22, wE.eq_23, wE.eq_24, wE.eq_25, wE.eq_26, wE.eq_27, wE.eq_28, wE.eq_29, wE.eq_30, wE.eq_31, wE.eq_32, wEs, wFs, smW, wDs, dkW, dixW, dstW, dgtW, isDct, dmW, kOf, dnW, inW, dinxW, dsnW, Bool.or_true, Bool.true_or, Bool.false_or, wO, wI, getS, setS, setsS, startS, clrS, clrsS, binW, cmpW, bfW, idxW, slcW, mfW, x1W, getW, augW, asgW, asgsW, unpW, tst, truth, seqOf, isNone, isLst, stoW, List.map_cons, List.map_nil, List.length_cons, List.length_nil, List.replicate, List.cons_append, List.nil_append, List.append_nil, Nat.reduceAdd, Nat.reduceSub, if_true, if_false, decide_eq_true_eq, Nat.zero_add, true_and, Option.isSome_some, Option.isSome_none, Bool.true_eq_false, Bool.false_eq_true, ixs, atIs, eqV_int, isTy, intOf, boolOf,  atI_last, List.getElem?_cons_zero, List.getElem?_cons_succ, List.set_cons_zero, List.set_cons_succ, List.set_set, Int.reduceAbs, Nat.reducePow, Int.reduceToNat, Int.reducePow, Int.reduceMul, Int.reduceAdd, Int.reduceSub, Int.reduceNeg, Int.cast_ofNat_Int, Int.reduceEq, eq_self, Int.reduceLT, Int.reduceLE, Nat.reduceLT, Nat.reduceLeDiff, decide_true, decide_false, Bool.not_true, Bool.not_false, and_true, List.length_set, mut_set, lst_set, mut_new, lst_new, mut_new2, lst_new2, mut_new3, lst_new3, set_new, szs, isDisp, mut_app (mut_app (mut_app (mut_app d1)))]
      refine And.intro ⟨by decide, by decide, cz _ (by decide)⟩ (And.intro (cz _ (by simp; omega)) ?_)
      refine loop (acc ++ [x.at_]) _ _ _ (by rw [mut_set (by simp; omega), List.map_append]; rfl) (fun c => ?_) (by simp; omega) ((f.appR.appR.appR.appR).setNew (Nat.le_refl _))
      rw [hb, hlt, List.mem_append]
      simp only [Option.toList_none, List.nil_append, List.mem_cons, List.not_mem_nil, or_false]
      constructor
      · rintro ((a | a) | a)
        · exact .inl a
        · exact .inr (.inl a)
        · exact .inr (.inr a)
      · rintro (a | a | a)
        · exact .inl (.inl a)
        · exact .inl (.inr a)
        · exact .inr a
    | some l =>
      have lv0 : x.lv = .int l := by unfold Laid.lv; rw [hlt]
      simp! only [hv, lv0, b__law_edges_2, d1]
      have r0 : (List.replicate true.toInt.toNat [Vl.int l]).flatten = [Vl.int l] := rfl
      simp only [r0, wB, wS.eq_1, wS.eq_2, wS.eq_3, wS.eq_4, wS.eq_5, wS.eq_6, wS.eq_7, wS.eq_8, wS.eq_9, wS.eq_10, wS.eq_13, wS.eq_14, wS.eq_15, wS.eq_16, wS.eq_18, wS_fr, wS_whl, thD_none, wE.eq_1, wE.eq_2, wE.eq_3, wE.eq_4, wE.eq_5, wE.eq_6, wE.eq_7, wE.eq_8, wE.eq_9, wE.eq_10, wE.eq_11, wE.eq_12, wE.eq_13, wE.eq_14, wE.eq_15, wE.eq_16, wE.eq_17, wE.eq_18, wE.eq_19, wE_lc, wE.eq_21, wE.eq_22, wE.eq_23, wE.eq_24, wE.eq_25, wE.eq_26, wE.eq_27, wE.eq_28, wE.eq_29, wE.eq_30, wE.eq_31, wE.eq_32, wEs, wFs, smW, wDs, dkW, dixW, dstW, dgtW, isDct, dmW, kOf, dnW, inW, dinxW, dsnW, Bool.or_true, Bool.true_or, Bool.false_or, wO, wI, getS, setS, setsS, startS, clrS, clrsS, binW, cmpW, bfW, idxW, slcW, mfW, x1W, getW, augW, asgW, asgsW, unpW, tst, truth, seqOf, isNone, isLst, stoW, List.map_cons, List.map_nil, List.length_cons, List.length_nil, List.replicate, List.cons_append, List.nil_append, List.append_nil, Nat.reduceAdd, Nat.reduceSub, if_true, if_false, decide_eq_true_eq, Nat.zero_add, true_and, Option.isSome_some, Option.isSome_none, Bool.true_eq_false, Bool.false_eq_true, ixs, atIs, eqV_int, isTy, intOf, boolOf,  atI_last, List.getElem?_cons_zero, List.getElem?_cons_succ, List.set_cons_zero, List.set_cons_succ, List.set_set, Int.reduceAbs, Nat.reducePow, Int.reduceToNat, Int.reducePow, Int.reduceMul, Int.reduceAdd, Int.reduceSub, Int.reduceNeg, Int.cast_ofNat_Int, Int.reduceEq, eq_self, Int.reduceLT, Int.reduceLE, Nat.reduceLT, Nat.reduceLeDiff, decide_true, decide_false, Bool.not_true, Bool.not_false, and_true, List.length_set, mut_set, lst_set, mut_new, lst_new, mut_new2, lst_new2, mut_new3, lst_new3, set_new, szs, isDisp, mut_app (mut_app (mut_app (mut_app d1)))]
      refine And.intro ⟨by decide, by decide, cz _ (by decide)⟩ (And.intro (cz _ (by simp; omega)) ?_)
      refine loop (acc ++ [x.at_, l]) _ _ _ (by rw [mut_set (by simp; omega), List.map_append]; rfl) (fun c => ?_) (by simp; omega) ((f.appR.appR.appR.appR).setNew (Nat.le_refl _))
      rw [hb, hlt, List.mem_append]
      simp only [Option.toList_some, List.cons_append, List.nil_append, List.mem_cons, List.not_mem_nil, or_false]
      constructor
      · rintro ((a | a | a) | a)
        · exact .inl a
        · exact .inr (.inl a)
        · exact .inr (.inr (.inl a))
        · exact .inr (.inr (.inr a))
      · rintro (a | a | a | a)
        · exact .inl (.inl a)
        · exact .inl (.inr (.inl a))
        · exact .inl (.inr (.inr a))
        · exact .inr a
  · rintro σ ν ⟨acc, y2, y3, y4, y5, y6, rfl, d1, d2, d3, f⟩
    rw [List.length_map] at d2 d3
    rw [List.take_length] at d2
    refine ⟨trivial, ?_⟩
    simp! only [b__law_edges_6, mut_lst d1, optAll_intOf]
    refine And.intro (by omega) fun ms st hm => ?_
    refine q ms _ _ st (fun c => by rw [hm c, d2 c]) ?_ (f.trans Fr.app) mut_new f.1
    have nd : ms.Nodup := st.imp fun h => by omega
    have := List.Nodup.length_le_of_subset nd (fun c hc => (hm c).mp hc)
    omega
theorem nodup_le : ∀ {ms acc : List Int}, ms.Nodup → (∀ c ∈ ms, c ∈ acc) → ms.length ≤ acc.length
  | [], _, _, _ => Nat.zero_le _
  | m :: ms, acc, h, hs => by
    rw [List.nodup_cons] at h
    have hm := hs m List.mem_cons_self
    have ih := nodup_le (acc := acc.erase m) h.2 fun c hc => (List.mem_erase_of_ne fun (e : c = m) => h.1 (by rw [← e]; exact hc)).mpr (hs c (List.mem_cons_of_mem _ hc))
    have := List.length_erase_of_mem hm
    have := List.length_pos_of_mem hm
    rw [List.length_cons]
    omega
theorem cutL_last {α : Type} (xs : List α) : cutL xs none (some (-1)) = xs.take (xs.length - 1) := by
  unfold cutL
  rw [HT.sIx_none, List.drop_zero, Nat.sub_zero]
  congr 1
  show (if (-1 : Int) < 0 then ((-1 : Int) + (xs.length : Int)).toNat else min (-1 : Int).toNat xs.length) = _
  rw [if_pos (by omega)]
  omega
theorem s_place {k N p o : Nat} {xs : List Laid} {μ : Mem} {Q : K1} (hN : N ≤ 100000000) (g : Pot N p o μ) (hx : ∀ x ∈ xs, WOk x) (hl : xs.length ≤ 300)
    (q : ∀ v ν, 0 ≤ v → (∀ M : Int, 3 ≤ M → (∀ x ∈ xs, ∀ c ∈ x.bor, c ≤ M) → v ≤ M + 2) → Fr [p, o] μ ν → Pot (N + 2) p o ν → Q (.int v) ν) : phi txt.F txt.G (k + 3) "_law_place" [.ref p, .tup (xs.map Laid.v)] μ Q := by
  obtain ⟨hp, ho⟩ := g.lt
  rw [p__law_place]
  refine ⟨rfl, ?_⟩
  simp! only [b__law_place_0]
  refine s_edges hx hl fun ms R ν1 st hm hlen f1 e1 hR => ?_
  have hl1 := f1.1
  have e2 : mutAt (ν1 ++ [Ob.lst [Vl.int 3]]) R = some (ms.map Vl.int) := mut_app e1
  simp! only [e2]
  refine And.intro (by rw [List.length_map]; exact Nat.le_trans (show _ ≤ 10000 by omega) (by decide)) ?_
  have g2 : Pot N p o (ν1 ++ [Ob.lst [Vl.int 3]] ++ [Ob.lst (ms.map Vl.int ++ [Vl.int 3])]) := ((g.fr f1 (by simp) (by simp)).fr (S := []) Fr.app (by simp) (by simp)).fr (S := []) Fr.app (by simp) (by simp)
  refine s_of (by omega) g2 lst_new (by simp) (by simp; omega) (by simp; omega) (by simp; omega) fun j v2 ν2 hj2 f2 g2 => ?_
  have b2 : ∃ i : Int, v2 = .int i ∧ ∀ M : Int, 3 ≤ M → (∀ x ∈ xs, ∀ c ∈ x.bor, c ≤ M) → i ≤ M := by
    have cs := List.mem_of_getElem? hj2
    rcases List.mem_append.mp cs with cs | cs
    · obtain ⟨c, hc, rfl⟩ := List.mem_map.mp cs
      refine ⟨c, rfl, fun M h3 hM => ?_⟩
      rcases (hm c).mp hc with rfl | ⟨x, hx, h⟩
      · omega
      · exact hM x hx c h
    · exact ⟨3, List.mem_singleton.mp cs, fun M h3 _ => h3⟩
  obtain ⟨i, rfl, hiM⟩ := b2
  have F2 : Fr [p, o] μ ν2 := (f1.of0.appR.appR).trans f2
  have hl2 := F2.1
  refine s_of (by omega) (g2.fr (S := []) Fr.app (by simp) (by simp)) lst_new (by simp) (by simp) (by omega) (by omega) fun j v3 ν3 hj3 f3 g3 => ?_
  have b3 : ∃ i : Int, v3 = .int i ∧ i ≤ 2 := by
    have cs := List.mem_of_getElem? hj3
    simp only [List.mem_cons, List.not_mem_nil, or_false] at cs
    rcases cs with rfl | rfl | rfl | rfl | rfl <;> exact ⟨_, rfl, by omega⟩
  obtain ⟨i3, rfl, hi3⟩ := b3
  simp! only [b__law_place_1]
  exact q _ ν3 (by omega) (fun M h3 hM => by have := hiM M h3 hM; omega) ((F2.appR).trans f3) g3
/-- a laid wisp, its numbers bounded -/
structure LkB (A B : Int) (x : Laid) : Prop where
  so : 0 ≤ x.o ∧ x.o ≤ 1
  ne : x.ss ≠ []
  len : x.ss.length ≤ 8
  s : ∀ y ∈ x.ss, 1 ≤ y.1 ∧ y.1 ≤ 1000000000000000000000000000000000000000000
  l : ∀ y ∈ x.ss, 1 ≤ y.2 ∧ y.2 ≤ 1000000000000000000000000000000000000000000
  falls : x.ss.Pairwise fun y z => z.1 < y.1
  at0 : 0 ≤ x.at_
  at1 : x.at_ ≤ A
  lt : ∀ m, x.let_ = some m → x.at_ < m ∧ m ≤ B
theorem LkB.ok {A B : Int} {x : Laid} (h : LkB A B x) : WOk x := ⟨⟨Nat.le_trans h.len (by decide), fun y hy => by
  have a := h.s y hy
  have b := h.l y hy
  unfold Bd
  exact ⟨by omega, by omega⟩⟩, h.ne, h.len, fun y hy => ⟨(h.s y hy).1, (h.l y hy).1⟩, h.falls⟩
theorem LkB.mono {A B C D : Int} {x : Laid} (h : LkB A B x) (a : A ≤ C) (b : B ≤ D) : LkB C D x :=
  ⟨h.so, h.ne, h.len, h.s, h.l, h.falls, h.at0, Int.le_trans h.at1 a, fun m e => ⟨(h.lt m e).1, Int.le_trans (h.lt m e).2 b⟩⟩
theorem DrL.lk {x : Laid} (h : DrL x) : LkB 100000000000000000000000000000000000000000000 100000000000000000000000000000000000000000000 x := by
  obtain ⟨⟨h1, h2, h3⟩, h4, h5, h6⟩ := h
  exact ⟨⟨h1, h2⟩, h3.ne, h3.len, fun y hy => by have := h3.s1 y hy; omega, fun y hy => by have := h3.l1 y hy; omega, h3.falls, h4, by omega, fun m e => by have := h6 m e; omega⟩
theorem stops_le : ∀ (ss : List (Int × Int)) (b : Int), (∀ y ∈ ss, 1 ≤ y.2 ∧ y.2 ≤ 1000000000000000000000000000000000000000000) → ∀ c ∈ stops b ss, c ≤ b + 1000000000000000000000000000000000000000000 * ss.length
  | [], _, _, _, h => by cases h
  | (s, l) :: r, b, hp, e, h => by
    have h1 : 1 ≤ l ∧ l ≤ 1000000000000000000000000000000000000000000 := hp (s, l) List.mem_cons_self
    rw [List.length_cons]
    push_cast
    rcases List.mem_cons.mp h with rfl | h
    · omega
    · have := stops_le r (b + l) (fun y hy => hp y (List.mem_cons_of_mem _ hy)) e h
      omega
theorem LkB.bor {A B : Int} {x : Laid} (h : LkB A B x) : ∀ c ∈ x.bor, c ≤ max (A + 8000000000000000000000000000000000000000000) B := by
  intro c hc
  have h1 := h.at1
  unfold Laid.bor at hc
  rcases List.mem_cons.mp hc with rfl | hc
  · omega
  · rcases List.mem_append.mp hc with hc | hc
    · cases hl : x.let_ with
      | none => rw [hl] at hc; cases hc
      | some m =>
        rw [hl] at hc
        simp only [Option.toList_some, List.mem_singleton] at hc
        subst hc
        have := h.lt c hl
        omega
    · have := stops_le x.ss x.at_ h.l c hc
      have := h.len
      omega
/-! repr: data of numbers, none, truths, texts, tuples -/
mutual
def sx : Vl → Bool
  | .none => true
  | .bool _ => true
  | .int i => decide (i.natAbs.log2 < 1000)
  | .str s => s.cps.toList.all fun c => decide (c < 16 ^ 8)
  | .tup vs => sxs vs
  | _ => false
def sxs : List Vl → Bool
  | [] => true
  | v :: vs => sx v && sxs vs
end
mutual
def wx : Vl → Nat
  | .tup vs => wxs vs
  | .str s => (PyData.str s).bulk
  | _ => 0
def wxs : List Vl → Nat
  | [] => 0
  | v :: vs => wx v + 1 + wxs vs
end
mutual
theorem sx_dat : ∀ v : Vl, sx v = true → (dat v).showable = true ∧ (dat v).hasDict = false ∧ (dat v).leavesShort 1002 = true ∧ (dat v).bulk = wx v
  | .none, _ => ⟨rfl, rfl, rfl, rfl⟩
  | .bool _, _ => ⟨rfl, rfl, rfl, rfl⟩
  | .int i, h => by
    have h := of_decide_eq_true h
    refine ⟨decide_eq_true (by omega), rfl, decide_eq_true ?_, rfl⟩
    have := int_text_length_le (a := i) (k := 1000) (by decide) h
    show (Str.ofString (toString i)).length ≤ 1002
    rw [PySem.ofString_length]
    omega
  | .str s, h => ⟨rfl, rfl, by simpa [dat, PyData.leavesShort, sx] using h, rfl⟩
  | .tup vs, h => by
    obtain ⟨h1, h2, h3, h4⟩ := sxs_dat vs (by simpa [sx] using h)
    exact ⟨by simpa [dat, PyData.showable] using h1, by simpa [dat, PyData.hasDict] using h2, by simpa [dat, PyData.leavesShort] using h3, by simpa [dat, PyData.bulk, wx] using h4⟩
  | .ref _, h => by simp [sx] at h
theorem sxs_dat : ∀ vs : List Vl, sxs vs = true → PyData.showableAll (dats vs) = true ∧ PyData.hasDictAll (dats vs) = false ∧ PyData.leavesShortAll 1002 (dats vs) = true ∧ PyData.bulkAll (dats vs) = wxs vs
  | [], _ => ⟨rfl, rfl, rfl, rfl⟩
  | v :: vs, h => by
    simp only [sxs, Bool.and_eq_true] at h
    obtain ⟨a1, a2, a3, a4⟩ := sx_dat v h.1
    obtain ⟨b1, b2, b3, b4⟩ := sxs_dat vs h.2
    refine ⟨?_, ?_, ?_, ?_⟩ <;> simp [dats, PyData.showableAll, PyData.hasDictAll, PyData.leavesShortAll, PyData.bulkAll, wxs, a1, a2, a3, a4, b1, b2, b3, b4]
end
/-- repr of such a thing -/
theorem rep_sx {v : Vl} (hp : pur 40 v = true) (hs : sx v = true) (hw : wx v ≤ 16000) : (dat v).showable = true ∧ (dat v).hasDict = false ∧ (dat v).depth ≤ 60 ∧ (dat v).shown.length ≤ sizeLine := by
  obtain ⟨_, _, h3⟩ := toD_pur [] v 40 hp
  obtain ⟨a1, a2, a3, a4⟩ := sx_dat v hs
  refine ⟨a1, a2, Nat.le_trans h3 (by decide), ?_⟩
  have := PyData.shown_le_bulk 1002 (by decide) _ a3
  rw [a4] at this
  rw [sizeLine_eq]
  omega
end PV

set_option exponentiation.threshold 2000
namespace PV
open PySem PySem.Spec PyProof.Rows L2
theorem filterMap_two (a b : Int) : ∀ ms : List Int, (ms.filterMap fun c => if a < c ∧ c < b then some (Vl.int c) else none) = (ms.filter fun c => decide (a < c ∧ c < b)).map Vl.int
  | [] => rfl
  | c :: ms => by
    by_cases h : a < c ∧ c < b
    · rw [List.filterMap_cons, List.filter_cons_of_pos (by simpa using h), if_pos h, filterMap_two a b ms]; rfl
    · rw [List.filterMap_cons, List.filter_cons_of_neg (by simpa using h), if_neg h, filterMap_two a b ms]
theorem s_cuts {k : Nat} {xs : List Laid} {a b : Int} {μ : Mem} {Q : K1} (hx : ∀ x ∈ xs, WOk x) (hl : xs.length ≤ 300)
    (q : ∀ (ms : List Int) (R : Nat) (ν : Mem), ms.Pairwise (· < ·) → (∀ c, c ∈ ms ↔ (a < c ∧ c < b) ∧ (c = 0 ∨ ∃ x ∈ xs, c ∈ x.bor)) → ms.length ≤ 1 + 10 * xs.length → Fr [] μ ν → mutAt ν R = some ((a :: ms ++ [b]).map Vl.int) → μ.length ≤ R → Q (.ref R) ν) : phi txt.F txt.G (k + 2) "_law_cuts" [.tup (xs.map Laid.v), .int a, .int b] μ Q := by
  rw [p__law_cuts]
  refine ⟨rfl, ?_⟩
  simp! only [b__law_cuts_0]
  refine s_edges hx hl fun ms R ν1 st hm hlen f1 e1 hR => ?_
  simp! only [mut_lst e1, srcOf]
  have cz : ∀ m : Nat, m ≤ 10000 → m ≤ sizeLine := fun m h => Nat.le_trans h (by decide)
  refine lcN_mapA (phi_le _ _ (Nat.le_refl _)) (fun c : Int => if a < c ∧ c < b then some (Vl.int c) else none) ⟨mut_lst e1, trivial⟩ (cz _ (by omega)) (fun c hc ν2 f2 => ?_) fun ν2 f2 e2 => ?_
  · simp! only [true_and]
    by_cases h : a < c ∧ c < b
    · have h1 := h.1
      have h2 := h.2
      simp only [if_pos h]
      simp only [h1, h2, wB, wS.eq_1, wS.eq_2, wS.eq_3, wS.eq_4, wS.eq_5, wS.eq_6, wS.eq_7, wS.eq_8, wS.eq_9, wS.eq_10, wS.eq_13, wS.eq_14, wS.eq_15, wS.eq_16, wS.eq_18, wS_fr, wS_whl, thD_none, wE.eq_1, wE.eq_2, wE.eq_3, wE.eq_4, wE.eq_5, wE.eq_6, wE.eq_7, wE.eq_8, wE.eq_9, wE.eq_10, wE.eq_11, wE.eq_12, wE.eq_13, wE.eq_14, wE.eq_15, wE.eq_16, wE.eq_17, wE.eq_18, wE.eq_19, wE_lc, wE.eq_21, wE.eq_22, wE.eq_23, wE.eq_24, wE.eq_25, wE.eq_26, wE.eq_27, wE.eq_28, wE.eq_29, wE.eq_30, wE.eq_31, wE.eq_32, wEs, wFs, smW, wDs, dkW, dixW, dstW, dgtW, isDct, dmW, kOf, dnW, inW, dinxW, dsnW, Bool.or_true, Bool.true_or, Bool.false_or, wO, wI, getS, setS, setsS, startS, clrS, clrsS, binW, cmpW, bfW, idxW, slcW, mfW, x1W, getW, augW, asgW, asgsW, unpW, tst, truth, seqOf, isNone, isLst, stoW, List.map_cons, List.map_nil, List.length_cons, List.length_nil, List.replicate, List.cons_append, List.nil_append, List.append_nil, Nat.reduceAdd, Nat.reduceSub, if_true, if_false, decide_eq_true_eq, Nat.zero_add, true_and, Option.isSome_some, Option.isSome_none, Bool.true_eq_false, Bool.false_eq_true, ixs, atIs, eqV_int, isTy, intOf, boolOf,  atI_last, List.getElem?_cons_zero, List.getElem?_cons_succ, List.set_cons_zero, List.set_cons_succ, List.set_set, Int.reduceAbs, Nat.reducePow, Int.reduceToNat, Int.reducePow, Int.reduceMul, Int.reduceAdd, Int.reduceSub, Int.reduceNeg, Int.cast_ofNat_Int, Int.reduceEq, eq_self, Int.reduceLT, Int.reduceLE, Nat.reduceLT, Nat.reduceLeDiff, decide_true, decide_false, Bool.not_true, Bool.not_false, and_true, List.length_set, mut_set, lst_set, mut_new, lst_new, mut_new2, lst_new2, mut_new3, lst_new3, set_new, szs, isDisp]
      exact ⟨Fr.refl, Fr.refl⟩
    · simp only [if_neg h]
      by_cases h1 : a < c
      · have h2 : ¬ c < b := fun z => h ⟨h1, z⟩
        simp only [h1, h2, wB, wS.eq_1, wS.eq_2, wS.eq_3, wS.eq_4, wS.eq_5, wS.eq_6, wS.eq_7, wS.eq_8, wS.eq_9, wS.eq_10, wS.eq_13, wS.eq_14, wS.eq_15, wS.eq_16, wS.eq_18, wS_fr, wS_whl, thD_none, wE.eq_1, wE.eq_2, wE.eq_3, wE.eq_4, wE.eq_5, wE.eq_6, wE.eq_7, wE.eq_8, wE.eq_9, wE.eq_10, wE.eq_11, wE.eq_12, wE.eq_13, wE.eq_14, wE.eq_15, wE.eq_16, wE.eq_17, wE.eq_18, wE.eq_19, wE_lc, wE.eq_21, wE.eq_22, wE.eq_23, wE.eq_24, wE.eq_25, wE.eq_26, wE.eq_27, wE.eq_28, wE.eq_29, wE.eq_30, wE.eq_31, wE.eq_32, wEs, wFs, smW, wDs, dkW, dixW, dstW, dgtW, isDct, dmW, kOf, dnW, inW, dinxW, dsnW, Bool.or_true, Bool.true_or, Bool.false_or, wO, wI, getS, setS, setsS, startS, clrS, clrsS, binW, cmpW, bfW, idxW, slcW, mfW, x1W, getW, augW, asgW, asgsW, unpW, tst, truth, seqOf, isNone, isLst, stoW, List.map_cons, List.map_nil, List.length_cons, List.length_nil, List.replicate, List.cons_append, List.nil_append, List.append_nil, Nat.reduceAdd, Nat.reduceSub, if_true, if_false, decide_eq_true_eq, Nat.zero_add, true_and, Option.isSome_some, Option.isSome_none, Bool.true_eq_false, Bool.false_eq_true, ixs, atIs, eqV_int, isTy, intOf, boolOf,  atI_last, List.getElem?_cons_zero, List.getElem?_cons_succ, List.set_cons_zero, List.set_cons_succ, List.set_set, Int.reduceAbs, Nat.reducePow, Int.reduceToNat, Int.reducePow, Int.reduceMul, Int.reduceAdd, Int.reduceSub, Int.reduceNeg, Int.cast_ofNat_Int, Int.reduceEq, eq_self, Int.reduceLT, Int.reduceLE, Nat.reduceLT, Nat.reduceLeDiff, decide_true, decide_false, Bool.not_true, Bool.not_false, and_true, List.length_set, mut_set, lst_set, mut_new, lst_new, mut_new2, lst_new2, mut_new3, lst_new3, set_new, szs, isDisp]
        exact Fr.refl
      · simp only [h1, wB, wS.eq_1, wS.eq_2, wS.eq_3, wS.eq_4, wS.eq_5, wS.eq_6, wS.eq_7, wS.eq_8, wS.eq_9, wS.eq_10, wS.eq_13, wS.eq_14, wS.eq_15, wS.eq_16, wS.eq_18, wS_fr, wS_whl, thD_none, wE.eq_1, wE.eq_2, wE.eq_3, wE.eq_4, wE.eq_5, wE.eq_6, wE.eq_7, wE.eq_8, wE.eq_9, wE.eq_10, wE.eq_11, wE.eq_12, wE.eq_13, wE.eq_14, wE.eq_15, wE.eq_16, wE.eq_17, wE.eq_18, wE.eq_19, wE_lc, wE.eq_21, wE.eq_22, wE.eq_23, wE.eq_24, wE.eq_25, wE.eq_26, wE.eq_27, wE.eq_28, wE.eq_29, wE.eq_30, wE.eq_31, wE.eq_32, wEs, wFs, smW, wDs, dkW, dixW, dstW, dgtW, isDct, dmW, kOf, dnW, inW, dinxW, dsnW, Bool.or_true, Bool.true_or, Bool.false_or, wO, wI, getS, setS, setsS, startS, clrS, clrsS, binW, cmpW, bfW, idxW, slcW, mfW, x1W, getW, augW, asgW, asgsW, unpW, tst, truth, seqOf, isNone, isLst, stoW, List.map_cons, List.map_nil, List.length_cons, List.length_nil, List.replicate, List.cons_append, List.nil_append, List.append_nil, Nat.reduceAdd, Nat.reduceSub, if_true, if_false, decide_eq_true_eq, Nat.zero_add, true_and, Option.isSome_some, Option.isSome_none, Bool.true_eq_false, Bool.false_eq_true, ixs, atIs, eqV_int, isTy, intOf, boolOf,  atI_last, List.getElem?_cons_zero, List.getElem?_cons_succ, List.set_cons_zero, List.set_cons_succ, List.set_set, Int.reduceAbs, Nat.reducePow, Int.reduceToNat, Int.reducePow, Int.reduceMul, Int.reduceAdd, Int.reduceSub, Int.reduceNeg, Int.cast_ofNat_Int, Int.reduceEq, eq_self, Int.reduceLT, Int.reduceLE, Nat.reduceLT, Nat.reduceLeDiff, decide_true, decide_false, Bool.not_true, Bool.not_false, and_true, List.length_set, mut_set, lst_set, mut_new, lst_new, mut_new2, lst_new2, mut_new3, lst_new3, set_new, szs, isDisp]
        exact Fr.refl
  · rw [filterMap_two] at e2
    have hfl := List.length_filter_le (fun c => decide (a < c ∧ c < b)) ms
    have hal : mutAt ν2 μ.length = some [.int a] := f2.mut (f1.mut mut_new (by simp)) (by simp)
    simp! only [e2, hal]
    refine And.intro (cz _ (by rw [List.length_map]; omega)) (And.intro (cz _ (by rw [List.length_map]; omega)) ?_)
    refine q (ms.filter fun c => decide (a < c ∧ c < b)) _ _ (st.filter _) (fun c => ?_) (by omega) ((((Fr.app.trans f1).trans f2).appR).appR.appR) (by rw [mut_new]; simp) (by simp; have := f1.1; have := f2.1; simp at *; omega)
    rw [List.mem_filter, hm c, decide_eq_true_eq]
    exact And.comm
/-! the stretches, the pieces of a part -/
/-- from place to place, those that rise above what is behind -/
def prs (b : Int) : List Int → List (Int × Int)
  | [] => []
  | c :: r => if b < c then (b, c) :: prs c r else prs b r
def strV (xs : List Laid) (x : Int × Int) : Vl := .tup [.int x.1, .int x.2, .tup ((runFrom 0 x.1 xs).map Vl.int), .tup [.int (bothAt x.1 0 xs), .int (bothAt x.1 1 xs)]]
theorem prs_len : ∀ (b : Int) (ms : List Int), (prs b ms).length ≤ ms.length
  | _, [] => Nat.le_refl _
  | b, c :: r => by
    have h1 := prs_len c r
    have h2 := prs_len b r
    rw [prs]
    split <;> simp <;> omega
theorem s_stretches {k : Nat} {xs : List Laid} {μ : Mem} {Q : K1} (hx : ∀ x ∈ xs, WOk x ∧ 0 ≤ x.o ∧ x.o ≤ 1) (hl : xs.length ≤ 900)
    (q : ∀ (ms : List Int) ν, ms.Pairwise (· < ·) → (∀ c, c ∈ ms ↔ ∃ x ∈ xs, c ∈ x.chg) → ms.length ≤ 9 * xs.length → Fr [] μ ν → Q (.tup ((prs 0 ms).map (strV xs))) ν) : phi txt.F txt.G (k + 6) "stretches" [.tup (xs.map Laid.v)] μ Q := by
  have ok : ∀ x ∈ xs, WOk x := fun x h => (hx x h).1
  rw [p_stretches]
  refine ⟨rfl, ?_⟩
  simp! only [b_stretches_0, b_stretches_1, b_stretches_2]
  refine s_changes ok (by omega) fun ms R ν1 st hm hlen f1 e1 hR => ?_
  have hl1 := f1.1
  have e0 : mutAt ν1 μ.length = some [] := f1.mut mut_new (by simp)
  have hRn : μ.length ≠ R := by simp at hR; omega
  simp! only [mut_lst e1]
  refine frN_inv (phi_le _ _ (Nat.le_refl _)) (fun i σ ν => ∃ (b : Int) (y3 : Option Vl) (acc : List (Int × Int)), σ = [some (.tup (xs.map Laid.v)), some (.ref μ.length), some (.int b), y3] ∧ mutAt ν μ.length = some (acc.map (strV xs)) ∧ acc.length ≤ i ∧ prs 0 ms = acc ++ prs b (ms.drop i) ∧ lstAt ν R = some (ms.map Vl.int) ∧ Fr [] μ ν) ⟨0, _, [], rfl, e0, Nat.le_refl _, rfl, mut_lst e1, Fr.app.trans f1⟩ ?_ ?_
  · rintro i z σ ν hz ⟨b, y3, acc, rfl, d1, d2, d3, d4, f⟩
    rw [List.getElem?_map, Option.map_eq_some_iff] at hz
    obtain ⟨c, hci, rfl⟩ := hz
    obtain ⟨hi, hci2⟩ := List.getElem?_eq_some_iff.mp hci
    rw [List.drop_eq_getElem_cons hi, hci2, prs] at d3
    refine ⟨⟨d4, trivial⟩, ?_⟩
    simp! only [b_stretches_3]
    by_cases h : b < c
    · rw [if_pos h] at d3
      simp only [h, wB, wS.eq_1, wS.eq_2, wS.eq_3, wS.eq_4, wS.eq_5, wS.eq_6, wS.eq_7, wS.eq_8, wS.eq_9, wS.eq_10, wS.eq_13, wS.eq_14, wS.eq_15, wS.eq_16, wS.eq_18, wS_fr, wS_whl, thD_none, wE.eq_1, wE.eq_2, wE.eq_3, wE.eq_4, wE.eq_5, wE.eq_6, wE.eq_7, wE.eq_8, wE.eq_9, wE.eq_10, wE.eq_11, wE.eq_12, wE.eq_13, wE.eq_14, wE.eq_15, wE.eq_16, wE.eq_17, wE.eq_18, wE.eq_19, wE_lc, wE.eq_21, wE.eq_22, wE.eq_23, wE.eq_24, wE.eq_25, wE.eq_26, wE.eq_27, wE.eq_28, wE.eq_29, wE.eq_30, wE.eq_31, wE.eq_32, wEs, wFs, smW, wDs, dkW, dixW, dstW, dgtW, isDct, dmW, kOf, dnW, inW, dinxW, dsnW, Bool.or_true, Bool.true_or, Bool.false_or, wO, wI, getS, setS, setsS, startS, clrS, clrsS, binW, cmpW, bfW, idxW, slcW, mfW, x1W, getW, augW, asgW, asgsW, unpW, tst, truth, seqOf, isNone, isLst, stoW, List.map_cons, List.map_nil, List.length_cons, List.length_nil, List.replicate, List.cons_append, List.nil_append, List.append_nil, Nat.reduceAdd, Nat.reduceSub, if_true, if_false, decide_eq_true_eq, Nat.zero_add, true_and, Option.isSome_some, Option.isSome_none, Bool.true_eq_false, Bool.false_eq_true, ixs, atIs, eqV_int, isTy, intOf, boolOf,  atI_last, List.getElem?_cons_zero, List.getElem?_cons_succ, List.set_cons_zero, List.set_cons_succ, List.set_set, Int.reduceAbs, Nat.reducePow, Int.reduceToNat, Int.reducePow, Int.reduceMul, Int.reduceAdd, Int.reduceSub, Int.reduceNeg, Int.cast_ofNat_Int, Int.reduceEq, eq_self, Int.reduceLT, Int.reduceLE, Nat.reduceLT, Nat.reduceLeDiff, decide_true, decide_false, Bool.not_true, Bool.not_false, and_true, List.length_set, mut_set, lst_set, mut_new, lst_new, mut_new2, lst_new2, mut_new3, lst_new3, set_new, szs, isDisp, b_stretches_4, d1]
      refine s_running (by omega) (fun x h => (ok x h).few) fun ν2 f2 => ?_
      refine s_by_sorts (fun x h => ⟨(ok x h).few, (hx x h).2⟩) fun ν3 f3 => ?_
      have F3 := f2.trans f3
      have e3 := F3.mut d1 (by simp)
      simp! only [e3]
      refine And.intro (by rw [List.length_map]; exact Nat.lt_of_lt_of_le (show _ < 10000 by omega) (by decide)) ?_
      simp! only [b_stretches_5]
      refine ⟨c, _, acc ++ [(b, c)], rfl, ?_, by simp; omega, by rw [List.append_assoc]; exact d3, by rw [lst_set_ne (Ne.symm hRn)]; exact F3.lst d4 (by simp), (f.trans F3).setNew (Nat.le_refl _)⟩
      rw [mut_set (mut_lt e3), List.map_append]; rfl
    · rw [if_neg h] at d3
      simp only [h, wB, wS.eq_1, wS.eq_2, wS.eq_3, wS.eq_4, wS.eq_5, wS.eq_6, wS.eq_7, wS.eq_8, wS.eq_9, wS.eq_10, wS.eq_13, wS.eq_14, wS.eq_15, wS.eq_16, wS.eq_18, wS_fr, wS_whl, thD_none, wE.eq_1, wE.eq_2, wE.eq_3, wE.eq_4, wE.eq_5, wE.eq_6, wE.eq_7, wE.eq_8, wE.eq_9, wE.eq_10, wE.eq_11, wE.eq_12, wE.eq_13, wE.eq_14, wE.eq_15, wE.eq_16, wE.eq_17, wE.eq_18, wE.eq_19, wE_lc, wE.eq_21, wE.eq_22, wE.eq_23, wE.eq_24, wE.eq_25, wE.eq_26, wE.eq_27, wE.eq_28, wE.eq_29, wE.eq_30, wE.eq_31, wE.eq_32, wEs, wFs, smW, wDs, dkW, dixW, dstW, dgtW, isDct, dmW, kOf, dnW, inW, dinxW, dsnW, Bool.or_true, Bool.true_or, Bool.false_or, wO, wI, getS, setS, setsS, startS, clrS, clrsS, binW, cmpW, bfW, idxW, slcW, mfW, x1W, getW, augW, asgW, asgsW, unpW, tst, truth, seqOf, isNone, isLst, stoW, List.map_cons, List.map_nil, List.length_cons, List.length_nil, List.replicate, List.cons_append, List.nil_append, List.append_nil, Nat.reduceAdd, Nat.reduceSub, if_true, if_false, decide_eq_true_eq, Nat.zero_add, true_and, Option.isSome_some, Option.isSome_none, Bool.true_eq_false, Bool.false_eq_true, ixs, atIs, eqV_int, isTy, intOf, boolOf,  atI_last, List.getElem?_cons_zero, List.getElem?_cons_succ, List.set_cons_zero, List.set_cons_succ, List.set_set, Int.reduceAbs, Nat.reducePow, Int.reduceToNat, Int.reducePow, Int.reduceMul, Int.reduceAdd, Int.reduceSub, Int.reduceNeg, Int.cast_ofNat_Int, Int.reduceEq, eq_self, Int.reduceLT, Int.reduceLE, Nat.reduceLT, Nat.reduceLeDiff, decide_true, decide_false, Bool.not_true, Bool.not_false, and_true, List.length_set, mut_set, lst_set, mut_new, lst_new, mut_new2, lst_new2, mut_new3, lst_new3, set_new, szs, isDisp]
      exact ⟨b, _, acc, rfl, d1, by omega, d3, d4, f⟩
  · rintro σ ν ⟨b, y3, acc, rfl, d1, d2, d3, d4, f⟩
    refine ⟨⟨d4, trivial⟩, ?_⟩
    rw [List.length_map, List.drop_length, prs, List.append_nil] at d3
    simp! only [b_stretches_6, mut_lst d1]
    rw [← d3]
    exact q ms ν st hm hlen f
/-- pieces one behind the other, each of one thickness -/
def Pcs (xs : List Laid) (b : Int) : Int → List (Int × Int × Int) → Prop
  | a, [] => a = b
  | a, x :: r => x.1 = a ∧ a < x.2.1 ∧ x.2.1 ≤ b ∧ (∀ q, a ≤ q → q < x.2.1 → strongs q xs = x.2.2) ∧ Pcs xs b x.2.1 r
def pcV (x : Int × Int × Int) : Vl := .tup [.int x.1, .int x.2.1, .int x.2.2]
theorem Pcs.le {xs : List Laid} {b : Int} : ∀ {ps : List (Int × Int × Int)} {a : Int}, Pcs xs b a ps → a ≤ b
  | [], a, h => by
    have h : a = b := h
    omega
  | x :: r, a, h => by
    obtain ⟨h1, h2, h3, h4, h5⟩ := h
    omega
/-- what of the stretches lies in the part -/
def cutP (a b : Int) (T : Int → Int) : List (Int × Int) → List (Int × Int × Int)
  | [] => []
  | (s, e) :: r => if max s a < min e b then (max s a, min e b, T s) :: cutP a b T r else cutP a b T r
/-- the last place that they come to -/
def lastP (a b l : Int) : List (Int × Int) → Int
  | [] => l
  | (s, e) :: r => if max s a < min e b then lastP a b (min e b) r else lastP a b l r
theorem cutP_len (a b : Int) (T : Int → Int) : ∀ ps : List (Int × Int), (cutP a b T ps).length ≤ ps.length
  | [] => Nat.le_refl _
  | (s, e) :: r => by
    have := cutP_len a b T r
    rw [cutP]
    split <;> simp <;> omega
def endP (a b l : Int) (ps : List (Int × Int)) : List (Int × Int × Int) := if lastP a b l ps < b then [(lastP a b l ps, b, 0)] else []
theorem prs_pcs {xs : List Laid} (ok : ∀ x ∈ xs, WOk x) {a b : Int} (hab : a < b) {C : Int → Prop} (hC : Cov xs C) :
    ∀ (ms : List Int) (s l : Int), ms.Pairwise (· < ·) → (∀ c, C c → c ≤ s ∨ c ∈ ms) → (s ≤ a ∧ l = a ∨ a < s ∧ s ≤ b ∧ l = s ∨ b < s ∧ l = b) → Pcs xs b l (cutP a b (fun q => strongs q xs) (prs s ms) ++ endP a b l (prs s ms))
  | [], s, l, _, hc, hl => by
    have hz : ∀ q, s ≤ q → strongs q xs = 0 := fun q hq => first_end (fun x h => (ok x h).ne) hC fun c h => by
      rcases hc c h with h | h
      · omega
      · cases h
    rw [prs, cutP, List.nil_append, endP, lastP]
    by_cases c : l < b
    · rw [if_pos c]
      exact ⟨rfl, c, Int.le_refl _, fun q h1 h2 => hz q (by omega), rfl⟩
    · rw [if_neg c]
      show l = b
      omega
  | c :: ms, s, l, hp, hc, hl => by
    rw [List.pairwise_cons] at hp
    rw [prs]
    by_cases h : s < c
    · rw [if_pos h]
      have hc2 : ∀ d, C d → d ≤ c ∨ d ∈ ms := fun d hd => by
        rcases hc d hd with h1 | h1
        · exact .inl (by omega)
        · rcases List.mem_cons.mp h1 with rfl | h1
          · exact .inl (Int.le_refl _)
          · exact .inr h1
      have hno : ∀ d, C d → ¬ (s < d ∧ d < c) := fun d hd z => by
        rcases hc d hd with h1 | h1
        · omega
        · rcases List.mem_cons.mp h1 with rfl | h1
          · omega
          · have := hp.1 d h1; omega
      have hT : ∀ q, s ≤ q → q < c → strongs q xs = strongs s xs := fun q h1 h2 => first_next (fun x h => (ok x h).ne) hC hno h1 h2
      unfold endP
      rw [cutP, lastP]
      by_cases g : max s a < min c b
      · rw [if_pos g, if_pos g]
        have ih := prs_pcs ok hab hC ms c (min c b) hp.2 hc2 (by omega)
        refine ⟨by omega, by show l < min c b; omega, by show min c b ≤ b; omega, fun q h1 h2 => hT q (by omega) (by have h2 : q < min c b := h2; omega), ih⟩
      · rw [if_neg g, if_neg g]
        exact prs_pcs ok hab hC ms c l hp.2 hc2 (by omega)
    · rw [if_neg h]
      refine prs_pcs ok hab hC ms s l hp.2 (fun d hd => ?_) hl
      rcases hc d hd with h1 | h1
      · exact .inl h1
      · rcases List.mem_cons.mp h1 with rfl | h1
        · exact .inl (by omega)
        · exact .inr h1
theorem s_cut_pieces {k : Nat} {xs : List Laid} {a b : Int} {μ : Mem} {Q : K1} (hx : ∀ x ∈ xs, WOk x ∧ 0 ≤ x.o ∧ x.o ≤ 1) (h0 : 0 ≤ a) (hab : a < b) (hl : xs.length ≤ 300)
    (q : ∀ (ps : List (Int × Int × Int)) (R : Nat) ν, Pcs xs b a ps → ps.length ≤ 9 * xs.length + 1 → Fr [] μ ν → μ.length ≤ R → mutAt ν R = some (ps.map pcV) → Q (.ref R) ν) : phi txt.F txt.G (k + 7) "cut_pieces" [.tup (xs.map Laid.v), .int a, .int b] μ Q := by
  have ok : ∀ x ∈ xs, WOk x := fun x h => (hx x h).1
  rw [p_cut_pieces]
  refine ⟨rfl, ?_⟩
  simp! only [b_cut_pieces_0, b_cut_pieces_1, b_cut_pieces_2]
  refine s_stretches hx (by omega) fun ms ν1 st hm hlen f1 => ?_
  have hl1 := f1.1
  have e0 : mutAt ν1 μ.length = some [] := f1.mut mut_new (by simp)
  have hpl := prs_len 0 ms
  have hpc := prs_pcs ok hab (C := (· ∈ ms)) (fun x hxm c hc => (hm c).mpr ⟨x, hxm, hc⟩) ms 0 a st (fun c hc => .inr hc) (.inl ⟨h0, rfl⟩)
  have hT : ∀ s, bothAt s 0 xs + bothAt s 1 xs = strongs s xs := fun s => (strongs_both s xs fun x h => (hx x h).2).symm
  simp! only [srcOf]
  refine frN_inv (phi_le _ _ (Nat.le_refl _)) (fun i σ ν => ∃ (l : Int) (y5 y6 y7 y8 y9 y10 : Option Vl) (acc : List (Int × Int × Int)), σ = [some (.tup (xs.map Laid.v)), some (.int a), some (.int b), some (.ref μ.length), some (.int l), y5, y6, y7, y8, y9, y10] ∧ mutAt ν μ.length = some (acc.map pcV) ∧ acc.length ≤ i ∧ cutP a b (fun q => strongs q xs) (prs 0 ms) = acc ++ cutP a b (fun q => strongs q xs) ((prs 0 ms).drop i) ∧ lastP a b a (prs 0 ms) = lastP a b l ((prs 0 ms).drop i) ∧ Fr [] μ ν) ⟨a, _, _, _, _, _, _, [], rfl, e0, Nat.le_refl _, rfl, rfl, Fr.app.trans f1⟩ ?_ ?_
  · rintro i z σ ν hz ⟨l, y5, y6, y7, y8, y9, y10, acc, rfl, d1, d2, d3, d4, f⟩
    rw [List.getElem?_map, Option.map_eq_some_iff] at hz
    obtain ⟨⟨s, e⟩, hci, rfl⟩ := hz
    obtain ⟨hi, hci2⟩ := List.getElem?_eq_some_iff.mp hci
    rw [List.drop_eq_getElem_cons hi, hci2, cutP] at d3
    rw [List.drop_eq_getElem_cons hi, hci2, lastP] at d4
    refine ⟨trivial, ?_⟩
    simp only [strV, wB, wS.eq_1, wS.eq_2, wS.eq_3, wS.eq_4, wS.eq_5, wS.eq_6, wS.eq_7, wS.eq_8, wS.eq_9, wS.eq_10, wS.eq_13, wS.eq_14, wS.eq_15, wS.eq_16, wS.eq_18, wS_fr, wS_whl, thD_none, wE.eq_1, wE.eq_2, wE.eq_3, wE.eq_4, wE.eq_5, wE.eq_6, wE.eq_7, wE.eq_8, wE.eq_9, wE.eq_10, wE.eq_11, wE.eq_12, wE.eq_13, wE.eq_14, wE.eq_15, wE.eq_16, wE.eq_17, wE.eq_18, wE.eq_19, wE_lc, wE.eq_21, wE.eq_22, wE.eq_23, wE.eq_24, wE.eq_25, wE.eq_26, wE.eq_27, wE.eq_28, wE.eq_29, wE.eq_30, wE.eq_31, wE.eq_32, wEs, wFs, smW, wDs, dkW, dixW, dstW, dgtW, isDct, dmW, kOf, dnW, inW, dinxW, dsnW, Bool.or_true, Bool.true_or, Bool.false_or, wO, wI, getS, setS, setsS, startS, clrS, clrsS, binW, cmpW, bfW, idxW, slcW, mfW, x1W, getW, augW, asgW, asgsW, unpW, tst, truth, seqOf, isNone, isLst, stoW, List.map_cons, List.map_nil, List.length_cons, List.length_nil, List.replicate, List.cons_append, List.nil_append, List.append_nil, Nat.reduceAdd, Nat.reduceSub, if_true, if_false, decide_eq_true_eq, Nat.zero_add, true_and, Option.isSome_some, Option.isSome_none, Bool.true_eq_false, Bool.false_eq_true, ixs, atIs, eqV_int, isTy, intOf, boolOf,  atI_last, List.getElem?_cons_zero, List.getElem?_cons_succ, List.set_cons_zero, List.set_cons_succ, List.set_set, Int.reduceAbs, Nat.reducePow, Int.reduceToNat, Int.reducePow, Int.reduceMul, Int.reduceAdd, Int.reduceSub, Int.reduceNeg, Int.cast_ofNat_Int, Int.reduceEq, eq_self, Int.reduceLT, Int.reduceLE, Nat.reduceLT, Nat.reduceLeDiff, decide_true, decide_false, Bool.not_true, Bool.not_false, and_true, List.length_set, mut_set, lst_set, mut_new, lst_new, mut_new2, lst_new2, mut_new3, lst_new3, set_new, szs, isDisp, b_cut_pieces_3, b_cut_pieces_4]
    by_cases g : max s a < min e b
    · rw [if_pos g] at d3 d4
      simp only [g, wB, wS.eq_1, wS.eq_2, wS.eq_3, wS.eq_4, wS.eq_5, wS.eq_6, wS.eq_7, wS.eq_8, wS.eq_9, wS.eq_10, wS.eq_13, wS.eq_14, wS.eq_15, wS.eq_16, wS.eq_18, wS_fr, wS_whl, thD_none, wE.eq_1, wE.eq_2, wE.eq_3, wE.eq_4, wE.eq_5, wE.eq_6, wE.eq_7, wE.eq_8, wE.eq_9, wE.eq_10, wE.eq_11, wE.eq_12, wE.eq_13, wE.eq_14, wE.eq_15, wE.eq_16, wE.eq_17, wE.eq_18, wE.eq_19, wE_lc, wE.eq_21, wE.eq_22, wE.eq_23, wE.eq_24, wE.eq_25, wE.eq_26, wE.eq_27, wE.eq_28, wE.eq_29, wE.eq_30, wE.eq_31, wE.eq_32, wEs, wFs, smW, wDs, dkW, dixW, dstW, dgtW, isDct, dmW, kOf, dnW, inW, dinxW, dsnW, Bool.or_true, Bool.true_or, Bool.false_or, wO, wI, getS, setS, setsS, startS, clrS, clrsS, binW, cmpW, bfW, idxW, slcW, mfW, x1W, getW, augW, asgW, asgsW, unpW, tst, truth, seqOf, isNone, isLst, stoW, List.map_cons, List.map_nil, List.length_cons, List.length_nil, List.replicate, List.cons_append, List.nil_append, List.append_nil, Nat.reduceAdd, Nat.reduceSub, if_true, if_false, decide_eq_true_eq, Nat.zero_add, true_and, Option.isSome_some, Option.isSome_none, Bool.true_eq_false, Bool.false_eq_true, ixs, atIs, eqV_int, isTy, intOf, boolOf,  atI_last, List.getElem?_cons_zero, List.getElem?_cons_succ, List.set_cons_zero, List.set_cons_succ, List.set_set, Int.reduceAbs, Nat.reducePow, Int.reduceToNat, Int.reducePow, Int.reduceMul, Int.reduceAdd, Int.reduceSub, Int.reduceNeg, Int.cast_ofNat_Int, Int.reduceEq, eq_self, Int.reduceLT, Int.reduceLE, Nat.reduceLT, Nat.reduceLeDiff, decide_true, decide_false, Bool.not_true, Bool.not_false, and_true, List.length_set, mut_set, lst_set, mut_new, lst_new, mut_new2, lst_new2, mut_new3, lst_new3, set_new, szs, isDisp, b_cut_pieces_5, d1, b_cut_pieces_6]
      refine And.intro (by rw [List.length_map]; exact Nat.lt_of_lt_of_le (show _ < 10000 by omega) (by decide)) ?_
      refine ⟨min e b, _, _, _, _, _, _, acc ++ [(max s a, min e b, strongs s xs)], rfl, ?_, by simp; omega, by rw [List.append_assoc]; exact d3, d4, f.setNew (Nat.le_refl _)⟩
      rw [mut_set (mut_lt d1), List.map_append, hT]; rfl
    · rw [if_neg g] at d3 d4
      simp only [g, wB, wS.eq_1, wS.eq_2, wS.eq_3, wS.eq_4, wS.eq_5, wS.eq_6, wS.eq_7, wS.eq_8, wS.eq_9, wS.eq_10, wS.eq_13, wS.eq_14, wS.eq_15, wS.eq_16, wS.eq_18, wS_fr, wS_whl, thD_none, wE.eq_1, wE.eq_2, wE.eq_3, wE.eq_4, wE.eq_5, wE.eq_6, wE.eq_7, wE.eq_8, wE.eq_9, wE.eq_10, wE.eq_11, wE.eq_12, wE.eq_13, wE.eq_14, wE.eq_15, wE.eq_16, wE.eq_17, wE.eq_18, wE.eq_19, wE_lc, wE.eq_21, wE.eq_22, wE.eq_23, wE.eq_24, wE.eq_25, wE.eq_26, wE.eq_27, wE.eq_28, wE.eq_29, wE.eq_30, wE.eq_31, wE.eq_32, wEs, wFs, smW, wDs, dkW, dixW, dstW, dgtW, isDct, dmW, kOf, dnW, inW, dinxW, dsnW, Bool.or_true, Bool.true_or, Bool.false_or, wO, wI, getS, setS, setsS, startS, clrS, clrsS, binW, cmpW, bfW, idxW, slcW, mfW, x1W, getW, augW, asgW, asgsW, unpW, tst, truth, seqOf, isNone, isLst, stoW, List.map_cons, List.map_nil, List.length_cons, List.length_nil, List.replicate, List.cons_append, List.nil_append, List.append_nil, Nat.reduceAdd, Nat.reduceSub, if_true, if_false, decide_eq_true_eq, Nat.zero_add, true_and, Option.isSome_some, Option.isSome_none, Bool.true_eq_false, Bool.false_eq_true, ixs, atIs, eqV_int, isTy, intOf, boolOf,  atI_last, List.getElem?_cons_zero, List.getElem?_cons_succ, List.set_cons_zero, List.set_cons_succ, List.set_set, Int.reduceAbs, Nat.reducePow, Int.reduceToNat, Int.reducePow, Int.reduceMul, Int.reduceAdd, Int.reduceSub, Int.reduceNeg, Int.cast_ofNat_Int, Int.reduceEq, eq_self, Int.reduceLT, Int.reduceLE, Nat.reduceLT, Nat.reduceLeDiff, decide_true, decide_false, Bool.not_true, Bool.not_false, and_true, List.length_set, mut_set, lst_set, mut_new, lst_new, mut_new2, lst_new2, mut_new3, lst_new3, set_new, szs, isDisp]
      exact ⟨l, _, _, _, _, _, _, acc, rfl, d1, by omega, d3, d4, f⟩
  · rintro σ ν ⟨l, y5, y6, y7, y8, y9, y10, acc, rfl, d1, d2, d3, d4, f⟩
    refine ⟨trivial, ?_⟩
    rw [List.length_map] at d2 d3 d4
    rw [List.drop_length, cutP, List.append_nil] at d3
    rw [List.drop_length, lastP] at d4
    unfold endP at hpc
    rw [d3, d4] at hpc
    simp! only [b_cut_pieces_7]
    by_cases c : l < b
    · rw [if_pos c] at hpc
      simp only [c, wB, wS.eq_1, wS.eq_2, wS.eq_3, wS.eq_4, wS.eq_5, wS.eq_6, wS.eq_7, wS.eq_8, wS.eq_9, wS.eq_10, wS.eq_13, wS.eq_14, wS.eq_15, wS.eq_16, wS.eq_18, wS_fr, wS_whl, thD_none, wE.eq_1, wE.eq_2, wE.eq_3, wE.eq_4, wE.eq_5, wE.eq_6, wE.eq_7, wE.eq_8, wE.eq_9, wE.eq_10, wE.eq_11, wE.eq_12, wE.eq_13, wE.eq_14, wE.eq_15, wE.eq_16, wE.eq_17, wE.eq_18, wE.eq_19, wE_lc, wE.eq_21, wE.eq_22, wE.eq_23, wE.eq_24, wE.eq_25, wE.eq_26, wE.eq_27, wE.eq_28, wE.eq_29, wE.eq_30, wE.eq_31, wE.eq_32, wEs, wFs, smW, wDs, dkW, dixW, dstW, dgtW, isDct, dmW, kOf, dnW, inW, dinxW, dsnW, Bool.or_true, Bool.true_or, Bool.false_or, wO, wI, getS, setS, setsS, startS, clrS, clrsS, binW, cmpW, bfW, idxW, slcW, mfW, x1W, getW, augW, asgW, asgsW, unpW, tst, truth, seqOf, isNone, isLst, stoW, List.map_cons, List.map_nil, List.length_cons, List.length_nil, List.replicate, List.cons_append, List.nil_append, List.append_nil, Nat.reduceAdd, Nat.reduceSub, if_true, if_false, decide_eq_true_eq, Nat.zero_add, true_and, Option.isSome_some, Option.isSome_none, Bool.true_eq_false, Bool.false_eq_true, ixs, atIs, eqV_int, isTy, intOf, boolOf,  atI_last, List.getElem?_cons_zero, List.getElem?_cons_succ, List.set_cons_zero, List.set_cons_succ, List.set_set, Int.reduceAbs, Nat.reducePow, Int.reduceToNat, Int.reducePow, Int.reduceMul, Int.reduceAdd, Int.reduceSub, Int.reduceNeg, Int.cast_ofNat_Int, Int.reduceEq, eq_self, Int.reduceLT, Int.reduceLE, Nat.reduceLT, Nat.reduceLeDiff, decide_true, decide_false, Bool.not_true, Bool.not_false, and_true, List.length_set, mut_set, lst_set, mut_new, lst_new, mut_new2, lst_new2, mut_new3, lst_new3, set_new, szs, isDisp, b_cut_pieces_8, d1, b_cut_pieces_9]
      refine And.intro (by rw [List.length_map]; exact Nat.lt_of_lt_of_le (show _ < 10000 by omega) (by decide)) ?_
      refine q _ _ _ hpc (by simp; omega) (f.setNew (Nat.le_refl _)) (Nat.le_refl _) ?_
      rw [mut_set (mut_lt d1), List.map_append]; rfl
    · rw [if_neg c, List.append_nil] at hpc
      simp only [c, wB, wS.eq_1, wS.eq_2, wS.eq_3, wS.eq_4, wS.eq_5, wS.eq_6, wS.eq_7, wS.eq_8, wS.eq_9, wS.eq_10, wS.eq_13, wS.eq_14, wS.eq_15, wS.eq_16, wS.eq_18, wS_fr, wS_whl, thD_none, wE.eq_1, wE.eq_2, wE.eq_3, wE.eq_4, wE.eq_5, wE.eq_6, wE.eq_7, wE.eq_8, wE.eq_9, wE.eq_10, wE.eq_11, wE.eq_12, wE.eq_13, wE.eq_14, wE.eq_15, wE.eq_16, wE.eq_17, wE.eq_18, wE.eq_19, wE_lc, wE.eq_21, wE.eq_22, wE.eq_23, wE.eq_24, wE.eq_25, wE.eq_26, wE.eq_27, wE.eq_28, wE.eq_29, wE.eq_30, wE.eq_31, wE.eq_32, wEs, wFs, smW, wDs, dkW, dixW, dstW, dgtW, isDct, dmW, kOf, dnW, inW, dinxW, dsnW, Bool.or_true, Bool.true_or, Bool.false_or, wO, wI, getS, setS, setsS, startS, clrS, clrsS, binW, cmpW, bfW, idxW, slcW, mfW, x1W, getW, augW, asgW, asgsW, unpW, tst, truth, seqOf, isNone, isLst, stoW, List.map_cons, List.map_nil, List.length_cons, List.length_nil, List.replicate, List.cons_append, List.nil_append, List.append_nil, Nat.reduceAdd, Nat.reduceSub, if_true, if_false, decide_eq_true_eq, Nat.zero_add, true_and, Option.isSome_some, Option.isSome_none, Bool.true_eq_false, Bool.false_eq_true, ixs, atIs, eqV_int, isTy, intOf, boolOf,  atI_last, List.getElem?_cons_zero, List.getElem?_cons_succ, List.set_cons_zero, List.set_cons_succ, List.set_set, Int.reduceAbs, Nat.reducePow, Int.reduceToNat, Int.reducePow, Int.reduceMul, Int.reduceAdd, Int.reduceSub, Int.reduceNeg, Int.cast_ofNat_Int, Int.reduceEq, eq_self, Int.reduceLT, Int.reduceLE, Nat.reduceLT, Nat.reduceLeDiff, decide_true, decide_false, Bool.not_true, Bool.not_false, and_true, List.length_set, mut_set, lst_set, mut_new, lst_new, mut_new2, lst_new2, mut_new3, lst_new3, set_new, szs, isDisp, b_cut_pieces_9]
      exact q _ _ _ hpc (by omega) f (Nat.le_refl _) d1
end PV

set_option exponentiation.threshold 2000
namespace PV
open PySem PySem.Spec PyProof.Rows L2
theorem pcs_cov {xs : List Laid} {b : Int} : ∀ {ps : List (Int × Int × Int)} {c : Int}, Pcs xs b c ps → ∀ q, c ≤ q → q < b → ∃ (j : Nat) (p : Int × Int × Int), ps[j]? = some p ∧ p.1 ≤ q ∧ q < p.2.1 ∧ strongs q xs = p.2.2
  | [], c, h, q, h1, h2 => by
    have h : c = b := h
    omega
  | x :: r, c, h, q, h1, h2 => by
    obtain ⟨g1, g2, g3, g4, g5⟩ := h
    by_cases z : q < x.2.1
    · exact ⟨0, x, rfl, by omega, z, g4 q h1 z⟩
    · obtain ⟨j, p, e1, e2⟩ := pcs_cov g5 q (by omega) h2
      exact ⟨j + 1, p, by simpa using e1, e2⟩
theorem pcs_at {xs : List Laid} {b : Int} : ∀ {ps : List (Int × Int × Int)} {c : Int} {i : Nat} {p : Int × Int × Int}, Pcs xs b c ps → ps[i]? = some p → c ≤ p.1 ∧ p.1 < p.2.1 ∧ p.2.1 ≤ b ∧ strongs p.1 xs = p.2.2
  | [], _, _, _, _, e => by simp at e
  | x :: r, c, 0, p, h, e => by
    obtain ⟨g1, g2, g3, g4, g5⟩ := h
    cases e
    exact ⟨by omega, by omega, g3, g4 _ (by omega) (by omega)⟩
  | x :: r, c, i + 1, p, h, e => by
    obtain ⟨g1, g2, g3, g4, g5⟩ := h
    obtain ⟨h1, h2⟩ := pcs_at (i := i) (p := p) g5 (by simpa using e)
    exact ⟨by omega, h2⟩
theorem pcs_lt {xs : List Laid} {b : Int} : ∀ {ps : List (Int × Int × Int)} {c : Int} {i j : Nat} {p p2 : Int × Int × Int}, Pcs xs b c ps → i < j → ps[i]? = some p → ps[j]? = some p2 → p.2.1 ≤ p2.1
  | [], _, _, _, _, _, _, _, e, _ => by simp at e
  | x :: r, c, i, 0, p, p2, h, l, e, e2 => by omega
  | x :: r, c, 0, j + 1, p, p2, h, l, e, e2 => by
    obtain ⟨g1, g2, g3, g4, g5⟩ := h
    cases e
    exact (pcs_at (i := j) (p := p2) g5 (by simpa using e2)).1
  | x :: r, c, i + 1, j + 1, p, p2, h, l, e, e2 => by
    obtain ⟨g1, g2, g3, g4, g5⟩ := h
    exact pcs_lt (i := i) (j := j) (p := p) (p2 := p2) g5 (by omega) (by simpa using e) (by simpa using e2)
/-- r is the first of the places with the least g of the thickness -/
def LM (g : Int → Int) (xs : List Laid) (a b r : Int) : Prop := a ≤ r ∧ r < b ∧ (∀ q, a ≤ q → q < b → g (strongs r xs) ≤ g (strongs q xs)) ∧ ∀ q, a ≤ q → q < r → g (strongs r xs) < g (strongs q xs)
theorem pcs_min {g : Int → Int} {xs : List Laid} {a b : Int} {ps : List (Int × Int × Int)} (h : Pcs xs b a ps) {i : Nat} {p : Int × Int × Int} (e : ps[i]? = some p) (fl : FirstLe ((ps.map (·.2.2)).map g) i) : LM g xs a b p.1 ∧ strongs p.1 xs = p.2.2 := by
  obtain ⟨h1, h2, h3, h4⟩ := pcs_at h e
  obtain ⟨m, f1, f2, f3⟩ := fl
  rw [List.getElem?_map, List.getElem?_map, e] at f1
  have f1 : g p.2.2 = m := Option.some.inj f1
  refine ⟨⟨h1, by omega, fun q q1 q2 => ?_, fun q q1 q2 => ?_⟩, h4⟩
  · obtain ⟨j, p2, e1, e2, e3, e4⟩ := pcs_cov h q q1 q2
    rw [h4, e4, f1]
    exact f2 _ (List.mem_map_of_mem (List.mem_map_of_mem (f := fun p : Int × Int × Int => p.2.2) (List.mem_of_getElem? e1)))
  · obtain ⟨j, p2, e1, e2, e3, e4⟩ := pcs_cov h q q1 (by omega)
    rw [h4, e4, f1]
    refine f3 j _ ?_ (by rw [List.getElem?_map, List.getElem?_map, e1]; rfl)
    by_cases z : j < i
    · exact z
    · exfalso
      by_cases z2 : j = i
      · subst z2
        rw [e] at e1
        cases e1
        omega
      · have := pcs_lt (i := i) (j := j) h (by omega) e e1
        omega
theorem optAll_part : ∀ ps : List (Int × Int × Int), optAll (partInt 2) (ps.map pcV) = some (ps.map (·.2.2))
  | [] => rfl
  | p :: ps => by
    rw [List.map_cons, List.map_cons]
    unfold optAll
    rw [optAll_part ps]
    rfl
theorem s_thinnest {k : Nat} {xs : List Laid} {a b : Int} {μ : Mem} {Q : K1} (hx : ∀ x ∈ xs, WOk x ∧ 0 ≤ x.o ∧ x.o ≤ 1) (h0 : 0 ≤ a) (hab : a < b) (hl : xs.length ≤ 300) (ht : μ[1]? = some (.tab "thinnest")) (hm : 3 ≤ μ.length)
    (q : ∀ r ν, LM id xs a b r → Fr [] μ ν → Q (.tup [.int (strongs r xs), .int r]) ν) : phi txt.F txt.G (k + 8) "thinnest" [.tup (xs.map Laid.v), .int a, .int b] μ Q := by
  rw [p_thinnest]
  refine ⟨rfl, ?_⟩
  simp! only [b_thinnest_0]
  refine s_cut_pieces hx h0 hab hl fun ps R ν1 hp hpl f1 hR e1 => ?_
  have h1 : ν1[1]? = some (.tab "thinnest") := by rw [f1.2 1 (by omega) (by simp)]; exact ht
  simp! only [keyW, e1, optAll_part, h1]
  have ne : ps.map pcV ≠ [] := fun z => by
    rw [List.map_eq_nil_iff] at z
    subst z
    have : a = b := hp
    omega
  refine And.intro ne fun i v hv fl => ?_
  rw [List.getElem?_map, Option.map_eq_some_iff] at hv
  obtain ⟨p, hp2, rfl⟩ := hv
  obtain ⟨lm, hs⟩ := pcs_min hp hp2 fl
  simp only [pcV, wB, wS.eq_1, wS.eq_2, wS.eq_3, wS.eq_4, wS.eq_5, wS.eq_6, wS.eq_7, wS.eq_8, wS.eq_9, wS.eq_10, wS.eq_13, wS.eq_14, wS.eq_15, wS.eq_16, wS.eq_18, wS_fr, wS_whl, thD_none, wE.eq_1, wE.eq_2, wE.eq_3, wE.eq_4, wE.eq_5, wE.eq_6, wE.eq_7, wE.eq_8, wE.eq_9, wE.eq_10, wE.eq_11, wE.eq_12, wE.eq_13, wE.eq_14, wE.eq_15, wE.eq_16, wE.eq_17, wE.eq_18, wE.eq_19, wE_lc, wE.eq_21, wE.eq_22, wE.eq_23, wE.eq_24, wE.eq_25, wE.eq_26, wE.eq_27, wE.eq_28, wE.eq_29, wE.eq_30, wE.eq_31, wE.eq_32, wEs, wFs, smW, wDs, dkW, dixW, dstW, dgtW, isDct, dmW, kOf, dnW, inW, dinxW, dsnW, Bool.or_true, Bool.true_or, Bool.false_or, wO, wI, getS, setS, setsS, startS, clrS, clrsS, binW, cmpW, bfW, idxW, slcW, mfW, x1W, getW, augW, asgW, asgsW, unpW, tst, truth, seqOf, isNone, isLst, stoW, List.map_cons, List.map_nil, List.length_cons, List.length_nil, List.replicate, List.cons_append, List.nil_append, List.append_nil, Nat.reduceAdd, Nat.reduceSub, if_true, if_false, decide_eq_true_eq, Nat.zero_add, true_and, Option.isSome_some, Option.isSome_none, Bool.true_eq_false, Bool.false_eq_true, ixs, atIs, eqV_int, isTy, intOf, boolOf,  atI_last, List.getElem?_cons_zero, List.getElem?_cons_succ, List.set_cons_zero, List.set_cons_succ, List.set_set, Int.reduceAbs, Nat.reducePow, Int.reduceToNat, Int.reducePow, Int.reduceMul, Int.reduceAdd, Int.reduceSub, Int.reduceNeg, Int.cast_ofNat_Int, Int.reduceEq, eq_self, Int.reduceLT, Int.reduceLE, Nat.reduceLT, Nat.reduceLeDiff, decide_true, decide_false, Bool.not_true, Bool.not_false, and_true, List.length_set, mut_set, lst_set, mut_new, lst_new, mut_new2, lst_new2, mut_new3, lst_new3, set_new, szs, isDisp, b_thinnest_1]
  rw [← hs]
  exact q p.1 ν1 lm f1
theorem s_thickest {k : Nat} {xs : List Laid} {a b : Int} {μ : Mem} {Q : K1} (hx : ∀ x ∈ xs, WOk x ∧ 0 ≤ x.o ∧ x.o ≤ 1) (h0 : 0 ≤ a) (hab : a < b) (hl : xs.length ≤ 300) (ht : μ[2]? = some (.tab "thickest")) (hm : 3 ≤ μ.length)
    (q : ∀ r ν, LM (- ·) xs a b r → Fr [] μ ν → Q (.tup [.int (strongs r xs), .int r]) ν) : phi txt.F txt.G (k + 8) "thickest" [.tup (xs.map Laid.v), .int a, .int b] μ Q := by
  rw [p_thickest]
  refine ⟨rfl, ?_⟩
  simp! only [b_thickest_0]
  refine s_cut_pieces hx h0 hab hl fun ps R ν1 hp hpl f1 hR e1 => ?_
  have h1 : ν1[2]? = some (.tab "thickest") := by rw [f1.2 2 (by omega) (by simp)]; exact ht
  simp! only [keyW, e1, optAll_part, h1]
  have ne : ps.map pcV ≠ [] := fun z => by
    rw [List.map_eq_nil_iff] at z
    subst z
    have : a = b := hp
    omega
  refine And.intro ne fun i v hv fl => ?_
  rw [List.getElem?_map, Option.map_eq_some_iff] at hv
  obtain ⟨p, hp2, rfl⟩ := hv
  obtain ⟨lm, hs⟩ := pcs_min hp hp2 fl
  simp only [pcV, wB, wS.eq_1, wS.eq_2, wS.eq_3, wS.eq_4, wS.eq_5, wS.eq_6, wS.eq_7, wS.eq_8, wS.eq_9, wS.eq_10, wS.eq_13, wS.eq_14, wS.eq_15, wS.eq_16, wS.eq_18, wS_fr, wS_whl, thD_none, wE.eq_1, wE.eq_2, wE.eq_3, wE.eq_4, wE.eq_5, wE.eq_6, wE.eq_7, wE.eq_8, wE.eq_9, wE.eq_10, wE.eq_11, wE.eq_12, wE.eq_13, wE.eq_14, wE.eq_15, wE.eq_16, wE.eq_17, wE.eq_18, wE.eq_19, wE_lc, wE.eq_21, wE.eq_22, wE.eq_23, wE.eq_24, wE.eq_25, wE.eq_26, wE.eq_27, wE.eq_28, wE.eq_29, wE.eq_30, wE.eq_31, wE.eq_32, wEs, wFs, smW, wDs, dkW, dixW, dstW, dgtW, isDct, dmW, kOf, dnW, inW, dinxW, dsnW, Bool.or_true, Bool.true_or, Bool.false_or, wO, wI, getS, setS, setsS, startS, clrS, clrsS, binW, cmpW, bfW, idxW, slcW, mfW, x1W, getW, augW, asgW, asgsW, unpW, tst, truth, seqOf, isNone, isLst, stoW, List.map_cons, List.map_nil, List.length_cons, List.length_nil, List.replicate, List.cons_append, List.nil_append, List.append_nil, Nat.reduceAdd, Nat.reduceSub, if_true, if_false, decide_eq_true_eq, Nat.zero_add, true_and, Option.isSome_some, Option.isSome_none, Bool.true_eq_false, Bool.false_eq_true, ixs, atIs, eqV_int, isTy, intOf, boolOf,  atI_last, List.getElem?_cons_zero, List.getElem?_cons_succ, List.set_cons_zero, List.set_cons_succ, List.set_set, Int.reduceAbs, Nat.reducePow, Int.reduceToNat, Int.reducePow, Int.reduceMul, Int.reduceAdd, Int.reduceSub, Int.reduceNeg, Int.cast_ofNat_Int, Int.reduceEq, eq_self, Int.reduceLT, Int.reduceLE, Nat.reduceLT, Nat.reduceLeDiff, decide_true, decide_false, Bool.not_true, Bool.not_false, and_true, List.length_set, mut_set, lst_set, mut_new, lst_new, mut_new2, lst_new2, mut_new3, lst_new3, set_new, szs, isDisp, b_thickest_1]
  rw [← hs]
  exact q p.1 ν1 lm f1
theorem s_law_right {k : Nat} {xs : List Laid} {a b r τ : Int} {μ : Mem} {Q : K1} (ok : ∀ x ∈ xs, WOk x) (hab : a < b) (hl : xs.length ≤ 300)
    (h1 : a ≤ r) (h2 : r < b) (hge : ∀ q, a ≤ q → q < b → 0 ≤ (strongs q xs - strongs r xs) * τ) (hgt : ∀ q, a ≤ q → q < r → 0 < (strongs q xs - strongs r xs) * τ) (hmul : ∀ q, mulOk (strongs q xs - strongs r xs) τ)
    (q : ∀ ν, Fr [] μ ν → Q (.bool true) ν) : phi txt.F txt.G (k + 3) "_law_right" [.tup (xs.map Laid.v), .int a, .int b, .tup [.int (strongs r xs), .int r], .int τ] μ Q := by
  rw [p__law_right]
  refine ⟨rfl, ?_⟩
  simp! only [b__law_right_0, srcOf, lcN, lcW, gd]
  simp! only [b__law_right_2, b__law_right_3, h1, h2]
  refine s_sum_at ok (by omega) fun ν1 f1 => ?_
  simp! only [b__law_right_5, b__law_right_7]
  refine s_cuts ok hl fun ms R ν2 st hm hlen f2 e2 hR => ?_
  obtain ⟨ws, hws, ct, hwl⟩ : ∃ ws : List Int, (∀ c ∈ ws, a ≤ c ∧ c < b) ∧ cutL (Vl.int a :: (ms ++ [b]).map Vl.int) none (some (-1)) = ws.map Vl.int ∧ ws.length ≤ 5000 := by
    refine ⟨a :: ms, fun c hc => ?_, ?_, by simp; omega⟩
    · rcases List.mem_cons.mp hc with rfl | hc
      · omega
      · have := (hm c).mp hc; omega
    · rw [cutL_last]
      simp
  simp! only [mut_lst e2, ct, srcOf]
  refine frN_inv (phi_le _ _ (Nat.le_refl _)) (fun i σ ν => ∃ (y7 y8 y9 : Option Vl), σ = [some (.tup (xs.map Laid.v)), some (.int a), some (.int b), some (.tup [.int (strongs r xs), .int r]), some (.int τ), some (.int (strongs r xs)), some (.int r), y7, y8, y9] ∧ Fr [] (ν2 ++ [Ob.lst (ws.map Vl.int)]) ν) ⟨_, _, _, rfl, Fr.refl⟩ ?_ ?_
  · rintro i z σ ν hz ⟨y7, y8, y9, rfl, f⟩
    rw [List.getElem?_map, Option.map_eq_some_iff] at hz
    obtain ⟨c, hci, rfl⟩ := hz
    obtain ⟨hca, hcb⟩ := hws c (List.mem_of_getElem? hci)
    refine ⟨⟨f.lst lst_new (by simp), trivial⟩, ?_⟩
    simp! only [b__law_right_8]
    refine s_sum_at ok (by omega) fun ν3 f3 => ?_
    have g1 := hge c hca hcb
    have g2 : ¬ (strongs c xs - strongs r xs) * τ < 0 := by omega
    simp! only [b__law_right_9, g2]
    by_cases e : (strongs c xs - strongs r xs) * τ = 0
    · have g3 : ¬ c < r := fun z => by
        have := hgt c hca z
        omega
      simp only [e, g3, wB, wS.eq_1, wS.eq_2, wS.eq_3, wS.eq_4, wS.eq_5, wS.eq_6, wS.eq_7, wS.eq_8, wS.eq_9, wS.eq_10, wS.eq_13, wS.eq_14, wS.eq_15, wS.eq_16, wS.eq_18, wS_fr, wS_whl, thD_none, wE.eq_1, wE.eq_2, wE.eq_3, wE.eq_4, wE.eq_5, wE.eq_6, wE.eq_7, wE.eq_8, wE.eq_9, wE.eq_10, wE.eq_11, wE.eq_12, wE.eq_13, wE.eq_14, wE.eq_15, wE.eq_16, wE.eq_17, wE.eq_18, wE.eq_19, wE_lc, wE.eq_21, wE.eq_22, wE.eq_23, wE.eq_24, wE.eq_25, wE.eq_26, wE.eq_27, wE.eq_28, wE.eq_29, wE.eq_30, wE.eq_31, wE.eq_32, wEs, wFs, smW, wDs, dkW, dixW, dstW, dgtW, isDct, dmW, kOf, dnW, inW, dinxW, dsnW, Bool.or_true, Bool.true_or, Bool.false_or, wO, wI, getS, setS, setsS, startS, clrS, clrsS, binW, cmpW, bfW, idxW, slcW, mfW, x1W, getW, augW, asgW, asgsW, unpW, tst, truth, seqOf, isNone, isLst, stoW, List.map_cons, List.map_nil, List.length_cons, List.length_nil, List.replicate, List.cons_append, List.nil_append, List.append_nil, Nat.reduceAdd, Nat.reduceSub, if_true, if_false, decide_eq_true_eq, Nat.zero_add, true_and, Option.isSome_some, Option.isSome_none, Bool.true_eq_false, Bool.false_eq_true, ixs, atIs, eqV_int, isTy, intOf, boolOf,  atI_last, List.getElem?_cons_zero, List.getElem?_cons_succ, List.set_cons_zero, List.set_cons_succ, List.set_set, Int.reduceAbs, Nat.reducePow, Int.reduceToNat, Int.reducePow, Int.reduceMul, Int.reduceAdd, Int.reduceSub, Int.reduceNeg, Int.cast_ofNat_Int, Int.reduceEq, eq_self, Int.reduceLT, Int.reduceLE, Nat.reduceLT, Nat.reduceLeDiff, decide_true, decide_false, Bool.not_true, Bool.not_false, and_true, List.length_set, mut_set, lst_set, mut_new, lst_new, mut_new2, lst_new2, mut_new3, lst_new3, set_new, szs, isDisp]
      exact ⟨hmul c, _, _, _, rfl, f.trans f3⟩
    · simp only [e, wB, wS.eq_1, wS.eq_2, wS.eq_3, wS.eq_4, wS.eq_5, wS.eq_6, wS.eq_7, wS.eq_8, wS.eq_9, wS.eq_10, wS.eq_13, wS.eq_14, wS.eq_15, wS.eq_16, wS.eq_18, wS_fr, wS_whl, thD_none, wE.eq_1, wE.eq_2, wE.eq_3, wE.eq_4, wE.eq_5, wE.eq_6, wE.eq_7, wE.eq_8, wE.eq_9, wE.eq_10, wE.eq_11, wE.eq_12, wE.eq_13, wE.eq_14, wE.eq_15, wE.eq_16, wE.eq_17, wE.eq_18, wE.eq_19, wE_lc, wE.eq_21, wE.eq_22, wE.eq_23, wE.eq_24, wE.eq_25, wE.eq_26, wE.eq_27, wE.eq_28, wE.eq_29, wE.eq_30, wE.eq_31, wE.eq_32, wEs, wFs, smW, wDs, dkW, dixW, dstW, dgtW, isDct, dmW, kOf, dnW, inW, dinxW, dsnW, Bool.or_true, Bool.true_or, Bool.false_or, wO, wI, getS, setS, setsS, startS, clrS, clrsS, binW, cmpW, bfW, idxW, slcW, mfW, x1W, getW, augW, asgW, asgsW, unpW, tst, truth, seqOf, isNone, isLst, stoW, List.map_cons, List.map_nil, List.length_cons, List.length_nil, List.replicate, List.cons_append, List.nil_append, List.append_nil, Nat.reduceAdd, Nat.reduceSub, if_true, if_false, decide_eq_true_eq, Nat.zero_add, true_and, Option.isSome_some, Option.isSome_none, Bool.true_eq_false, Bool.false_eq_true, ixs, atIs, eqV_int, isTy, intOf, boolOf,  atI_last, List.getElem?_cons_zero, List.getElem?_cons_succ, List.set_cons_zero, List.set_cons_succ, List.set_set, Int.reduceAbs, Nat.reducePow, Int.reduceToNat, Int.reducePow, Int.reduceMul, Int.reduceAdd, Int.reduceSub, Int.reduceNeg, Int.cast_ofNat_Int, Int.reduceEq, eq_self, Int.reduceLT, Int.reduceLE, Nat.reduceLT, Nat.reduceLeDiff, decide_true, decide_false, Bool.not_true, Bool.not_false, and_true, List.length_set, mut_set, lst_set, mut_new, lst_new, mut_new2, lst_new2, mut_new3, lst_new3, set_new, szs, isDisp]
      exact ⟨hmul c, _, _, _, rfl, f.trans f3⟩
  · rintro σ ν ⟨y7, y8, y9, rfl, f⟩
    refine ⟨⟨f.lst lst_new (by simp), trivial⟩, ?_⟩
    simp! only [b__law_right_11]
    exact q ν (((Fr.app.trans f1).trans f2).appR.trans f)
end PV

set_option exponentiation.threshold 2000
namespace PV
open PySem PySem.Spec PyProof.Rows L2
theorem strong_le {x : Laid} {B : Int} (h : WOk x) (hB : 0 ≤ B) (hs : ∀ y ∈ x.ss, y.1 ≤ B) (p : Int) : 0 ≤ x.strong p ∧ x.strong p ≤ B := by
  refine ⟨strong_nn fun y hy => (h.pos y hy).1, ?_⟩
  rw [strong_law h]
  split
  · have go : ∀ (ss : List (Int × Int)) (b k : Int), (∀ y ∈ ss, y.1 ≤ B) → thk b ss k ≤ B := by
      intro ss
      induction ss with
      | nil => intro b k _; exact hB
      | cons y r ih =>
        obtain ⟨s, l⟩ := y
        intro b k hp
        have h1 : s ≤ B := hp (s, l) List.mem_cons_self
        rw [thk]
        split
        · exact h1
        · exact ih (b + l) k fun y hy => hp y (List.mem_cons_of_mem _ hy)
    exact go _ _ _ hs
  · exact hB
theorem strongs_le {B : Int} (hB : 0 ≤ B) (p : Int) : ∀ {xs : List Laid}, (∀ x ∈ xs, WOk x ∧ ∀ y ∈ x.ss, y.1 ≤ B) → 0 ≤ strongs p xs ∧ strongs p xs ≤ B * xs.length
  | [], _ => by simp [strongs]
  | x :: xs, h => by
    have e : strongs p (x :: xs) = x.strong p + strongs p xs := rfl
    obtain ⟨h1, h2⟩ := h x List.mem_cons_self
    have a := strong_le h1 hB h2 p
    have b := strongs_le hB p fun y hy => h y (List.mem_cons_of_mem _ hy)
    rw [e, List.length_cons]
    push_cast
    rw [Int.mul_add]
    omega
/-- the tables stand -/
def TbI (ν : Mem) : Prop := ν[1]? = some (.tab "thinnest") ∧ ν[2]? = some (.tab "thickest") ∧ 3 ≤ ν.length
theorem TbI.fr {S : List Nat} {μ ν : Mem} (h : TbI μ) (f : Fr S μ ν) (hS : ∀ i ∈ S, 3 ≤ i) : TbI ν := by
  obtain ⟨h1, h2, h3⟩ := h
  refine ⟨?_, ?_, Nat.le_trans h3 f.1⟩
  · rw [f.2 1 (by omega) fun z => by have := hS 1 z; omega]; exact h1
  · rw [f.2 2 (by omega) fun z => by have := hS 2 z; omega]; exact h2
def LawI (p o N : Nat) (σ : Sg) (ν : Mem) : Prop := (∃ x2 x3 x4 x5 x6 x7 : Option Vl, σ = [some (.ref 0), some (.ref p), x2, x3, x4, x5, x6, x7]) ∧ Pot N p o ν ∧ TbI ν
theorem law_body {x2 x3 x5 x6 x7 : Option Vl} {xs : List Laid} {p o N : Nat} {μ : Mem} {D : En} (hN : N ≤ 1000000) (h3p : 3 ≤ p) (h3o : 3 ≤ o) (hx : ∀ x ∈ xs, LkB 100000000000000000000000000000000000000000000 100000000000000000000000000000000000000000000 x) (hl : xs.length ≤ 60) (g : Pot N p o μ) (tb : TbI μ)
    (hD : ∀ σ ν, LawI p o (N + 100) σ ν → D.nx σ ν) :
    wB (phi txt.F txt.G 39) txt.G b_law_4 D [some (.ref 0), some (.ref p), x2, x3, some (.tup (xs.map Laid.v)), x5, x6, x7] μ := by
  have ok : ∀ x ∈ xs, WOk x := fun x h => (hx x h).ok
  have oko : ∀ x ∈ xs, WOk x ∧ 0 ≤ x.o ∧ x.o ≤ 1 := fun x h => ⟨(hx x h).ok, (hx x h).so⟩
  have hb : ∀ x ∈ xs, ∀ c ∈ x.bor, c ≤ 1000000000000000000000000000000000000000000000 := fun x h c hc => by
    have := (hx x h).bor c hc
    omega
  have h3S : ∀ i ∈ [p, o], 3 ≤ i := fun i h => by
    rcases List.mem_cons.mp h with rfl | h
    · exact h3p
    · rw [List.mem_singleton.mp h]; exact h3o
  have hmul : ∀ (τ : Int), τ.natAbs ≤ 1 → ∀ r q, mulOk (strongs q xs - strongs r xs) τ := fun τ hτ r q => by
    have s1 := strongs_le (B := 1000000000000000000000000000000000000000000) (by omega) r (fun x h => ⟨ok x h, fun y hy => ((hx x h).s y hy).2⟩)
    have s2 := strongs_le (B := 1000000000000000000000000000000000000000000) (by omega) q (fun x h => ⟨ok x h, fun y hy => ((hx x h).s y hy).2⟩)
    exact mulOk_le 100000000000000000000000000000000000000000000 1 (by omega) hτ (by decide)
  simp! only [b_law_4]
  refine frN_inv (phi_le _ _ (Nat.le_refl _)) (fun i σ ν => (∃ x5 x6 x7 : Option Vl, σ = [some (.ref 0), some (.ref p), x2, x3, some (.tup (xs.map Laid.v)), x5, x6, x7]) ∧ Pot (N + 20 * i) p o ν ∧ TbI ν) ⟨⟨_, _, _, rfl⟩, g, tb⟩ ?_ ?_
  · rintro i z σ ν hz ⟨⟨x5, x6, x7, rfl⟩, g, tb⟩
    have hi : i < 3 := by
      have := (List.getElem?_eq_some_iff.mp hz).1
      rw [List.length_map, List.length_range] at this
      omega
    refine ⟨trivial, ?_⟩
    simp! only [b_law_5]
    refine s_place (by omega) g ok (by omega) fun a ν2 n2 m2 f2 g2 => ?_
    have ha := m2 _ (by omega) hb
    simp! only [b_law_6]
    refine s_place (by omega) g2 ok (by omega) fun b0 ν3 n3 m3 f3 g3 => ?_
    have hb0 := m3 _ (by omega) hb
    have tb3 := (tb.fr f2 h3S).fr f3 h3S
    obtain ⟨b, eb, hab⟩ : ∃ b : Int, max (a + 1) b0 = b ∧ a < b := ⟨_, rfl, by omega⟩
    simp! only [eb, b_law_7]
    refine s_thinnest oko n2 hab (by omega) tb3.1 tb3.2.2 fun r ν4 hr f4 => ?_
    have tb4 := tb3.fr f4 (by simp)
    obtain ⟨r1, r2, r3, r4⟩ := hr
    refine s_law_right ok hab (by omega) r1 r2 (fun q h1 h2 => by have : strongs r xs ≤ strongs q xs := r3 q h1 h2; omega) (fun q h1 h2 => by have : strongs r xs < strongs q xs := r4 q h1 h2; omega) (hmul _ (by decide) _) fun ν5 f5 => ?_
    have tb5 := tb4.fr f5 (by simp)
    simp! only [b_law_9]
    refine s_thickest oko n2 hab (by omega) tb5.2.1 tb5.2.2 fun r ν6 hr f6 => ?_
    have tb6 := tb5.fr f6 (by simp)
    obtain ⟨r1, r2, r3, r4⟩ := hr
    refine s_law_right ok hab (by omega) r1 r2 (fun q h1 h2 => by have : -strongs r xs ≤ -strongs q xs := r3 q h1 h2; omega) (fun q h1 h2 => by have : -strongs r xs < -strongs q xs := r4 q h1 h2; omega) (hmul _ (by decide) _) fun ν7 f7 => ?_
    simp! only [true_and]
    exact ⟨⟨_, _, _, rfl⟩, (g3.fr (((f4.trans f5).trans f6).trans f7) (by simp) (by simp)).mono (by omega), tb6.fr f7 (by simp)⟩
  · rintro σ ν ⟨⟨x5, x6, x7, rfl⟩, g, tb⟩
    exact ⟨trivial, hD _ _ ⟨⟨_, _, _, _, _, _, rfl⟩, g.mono (by rw [List.length_map, List.length_range]; omega), tb⟩⟩
theorem kept : KeptT txt 40 "law" := by
  intro ns hns
  rw [p_law]
  refine ⟨rfl, ?_⟩
  have hfs : txt.fs = [("thinnest" : Str), "thickest"] := by decide +kernel
  rw [hfs]
  have h0 : lstAt (Ob.frz (ns.map Vl.int) :: [("thinnest" : Str), "thickest"].map Ob.tab) 0 = some (ns.map Vl.int) := rfl
  have t0 : TbI (Ob.frz (ns.map Vl.int) :: [("thinnest" : Str), "thickest"].map Ob.tab) := ⟨rfl, rfl, by simp⟩
  generalize (Ob.frz (ns.map Vl.int) :: [("thinnest" : Str), "thickest"].map Ob.tab) = μ0 at h0 t0 ⊢
  simp! only [b_law_0]
  refine s_begin h0 hns fun p o ν0 f0 hp ho g0 => ?_
  have e0 : lstAt ν0 0 = some (ns.map Vl.int) := f0.lst h0 (by simp)
  have tb0 := t0.fr f0 (by simp)
  have h3p : 3 ≤ p := by have := t0.2.2; omega
  have h3o : 3 ≤ o := by have := t0.2.2; omega
  have h3S : ∀ i ∈ [p, o], 3 ≤ i := fun i h => by
    rcases List.mem_cons.mp h with rfl | h
    · exact h3p
    · rw [List.mem_singleton.mp h]; exact h3o
  simp! only [b_law_1, e0, List.length_map]
  refine And.intro (by omega) ?_
  refine frN_inv (phi_le _ _ (Nat.le_refl _)) (fun i σ ν => LawI p o (10000 * i) σ ν) ⟨⟨_, _, _, _, _, _, rfl⟩, g0, tb0⟩ ?_ ?_
  · rintro i x σ ν hx ⟨⟨x2, x3, x4, x5, x6, x7, rfl⟩, g, tb⟩
    have hxv : ∃ j : Nat, x = .int j ∧ i < 7 := by
      obtain ⟨j, hj, h⟩ := List.mem_map.mp (List.mem_of_getElem? hx)
      have h1 := List.mem_range.mp hj
      have h2 := (List.getElem?_eq_some_iff.mp hx).1
      rw [List.length_map, List.length_range] at h2
      exact ⟨j, h.symm, by omega⟩
    obtain ⟨j, rfl, hi⟩ := hxv
    refine ⟨trivial, ?_⟩
    obtain ⟨hp, ho⟩ := g.lt
    have rest : ∀ (many : Nat) (most : Int) (ξ : Mem), many ≤ 60 → 1 ≤ most → most ≤ 8 → Pot (10000 * i + 3) p o ξ → TbI ξ → phi txt.F txt.G 39 "_law_laid_ones" [.ref p, .int many, .int most] ξ fun v μ1 => wB (phi txt.F txt.G 39) txt.G b_law_4 ⟨LawI p o (10000 * (i + 1)), fun v _ => v = .bool true, wB (phi txt.F txt.G 39) txt.G b_law_11 ⟨fun _ _ => Vl.none = .bool true, fun v _ => v = .bool true, fun _ _ => False, fun _ _ => False⟩, LawI p o (10000 * (i + 1))⟩ [some (.ref 0), some (.ref p), some (.int j), some (.int many), some v, x5, x6, x7] μ1 := by
      intro many most ξ h1 h2 h3 gx tx
      refine s_laid_ones (by omega) gx h1 ⟨h2, h3⟩ fun xs ζ hxl hxs f3 g3 => ?_
      refine law_body (by omega) h3p h3o (fun x hx => (hxs x hx).1.lk) (by omega) g3 (tx.fr f3 h3S) fun σ ν h => ?_
      obtain ⟨a, b, c⟩ := h
      exact ⟨a, b.mono (by omega), c⟩
    by_cases c : j = 0
    · have c' : (j : Int) = 0 := by omega
      simp only [c', wB, wS.eq_1, wS.eq_2, wS.eq_3, wS.eq_4, wS.eq_5, wS.eq_6, wS.eq_7, wS.eq_8, wS.eq_9, wS.eq_10, wS.eq_13, wS.eq_14, wS.eq_15, wS.eq_16, wS.eq_18, wS_fr, wS_whl, thD_none, wE.eq_1, wE.eq_2, wE.eq_3, wE.eq_4, wE.eq_5, wE.eq_6, wE.eq_7, wE.eq_8, wE.eq_9, wE.eq_10, wE.eq_11, wE.eq_12, wE.eq_13, wE.eq_14, wE.eq_15, wE.eq_16, wE.eq_17, wE.eq_18, wE.eq_19, wE_lc, wE.eq_21, wE.eq_22, wE.eq_23, wE.eq_24, wE.eq_25, wE.eq_26, wE.eq_27, wE.eq_28, wE.eq_29, wE.eq_30, wE.eq_31, wE.eq_32, wEs, wFs, smW, wDs, dkW, dixW, dstW, dgtW, isDct, dmW, kOf, dnW, inW, dinxW, dsnW, Bool.or_true, Bool.true_or, Bool.false_or, wO, wI, getS, setS, setsS, startS, clrS, clrsS, binW, cmpW, bfW, idxW, slcW, mfW, x1W, getW, augW, asgW, asgsW, unpW, tst, truth, seqOf, isNone, isLst, stoW, List.map_cons, List.map_nil, List.length_cons, List.length_nil, List.replicate, List.cons_append, List.nil_append, List.append_nil, Nat.reduceAdd, Nat.reduceSub, if_true, if_false, decide_eq_true_eq, Nat.zero_add, true_and, Option.isSome_some, Option.isSome_none, Bool.true_eq_false, Bool.false_eq_true, ixs, atIs, eqV_int, isTy, intOf, boolOf,  atI_last, List.getElem?_cons_zero, List.getElem?_cons_succ, List.set_cons_zero, List.set_cons_succ, List.set_set, Int.reduceAbs, Nat.reducePow, Int.reduceToNat, Int.reducePow, Int.reduceMul, Int.reduceAdd, Int.reduceSub, Int.reduceNeg, Int.cast_ofNat_Int, Int.reduceEq, eq_self, Int.reduceLT, Int.reduceLE, Nat.reduceLT, Nat.reduceLeDiff, decide_true, decide_false, Bool.not_true, Bool.not_false, and_true, List.length_set, mut_set, lst_set, mut_new, lst_new, mut_new2, lst_new2, mut_new3, lst_new3, set_new, szs, isDisp, b_law_2] at rest ⊢
      refine s_take (by omega) (by omega) (by omega) g fun v2 ν2 l2 u2 f2 g2 => ?_
      obtain ⟨hp2, ho2⟩ := g2.lt
      refine s_of (by omega) (g2.fr (S := []) Fr.app (by simp) (by simp)) lst_new (by simp) (by simp) (by omega) (by omega) fun j3 v3 ν3 hj3 f3 g3 => ?_
      have b3 : ∃ n : Nat, v3 = .int n ∧ n ≤ 60 := by
        have cs := List.mem_of_getElem? hj3
        simp only [List.mem_cons, List.not_mem_nil, or_false] at cs
        rcases cs with rfl | rfl | rfl
        · exact ⟨60, rfl, by omega⟩
        · exact ⟨12, rfl, by omega⟩
        · exact ⟨v2.toNat, by rw [Int.toNat_of_nonneg (by omega)], by omega⟩
      obtain ⟨n, rfl, hn⟩ := b3
      simp! only [b_law_3]
      exact rest n 2 ν3 hn (by omega) (by omega) (g3.mono (by omega)) (((tb.fr f2 h3S).fr (S := []) Fr.app (by simp)).fr f3 h3S)
    · have c' : ¬ (j : Int) = 0 := by omega
      simp only [c', wB, wS.eq_1, wS.eq_2, wS.eq_3, wS.eq_4, wS.eq_5, wS.eq_6, wS.eq_7, wS.eq_8, wS.eq_9, wS.eq_10, wS.eq_13, wS.eq_14, wS.eq_15, wS.eq_16, wS.eq_18, wS_fr, wS_whl, thD_none, wE.eq_1, wE.eq_2, wE.eq_3, wE.eq_4, wE.eq_5, wE.eq_6, wE.eq_7, wE.eq_8, wE.eq_9, wE.eq_10, wE.eq_11, wE.eq_12, wE.eq_13, wE.eq_14, wE.eq_15, wE.eq_16, wE.eq_17, wE.eq_18, wE.eq_19, wE_lc, wE.eq_21, wE.eq_22, wE.eq_23, wE.eq_24, wE.eq_25, wE.eq_26, wE.eq_27, wE.eq_28, wE.eq_29, wE.eq_30, wE.eq_31, wE.eq_32, wEs, wFs, smW, wDs, dkW, dixW, dstW, dgtW, isDct, dmW, kOf, dnW, inW, dinxW, dsnW, Bool.or_true, Bool.true_or, Bool.false_or, wO, wI, getS, setS, setsS, startS, clrS, clrsS, binW, cmpW, bfW, idxW, slcW, mfW, x1W, getW, augW, asgW, asgsW, unpW, tst, truth, seqOf, isNone, isLst, stoW, List.map_cons, List.map_nil, List.length_cons, List.length_nil, List.replicate, List.cons_append, List.nil_append, List.append_nil, Nat.reduceAdd, Nat.reduceSub, if_true, if_false, decide_eq_true_eq, Nat.zero_add, true_and, Option.isSome_some, Option.isSome_none, Bool.true_eq_false, Bool.false_eq_true, ixs, atIs, eqV_int, isTy, intOf, boolOf,  atI_last, List.getElem?_cons_zero, List.getElem?_cons_succ, List.set_cons_zero, List.set_cons_succ, List.set_set, Int.reduceAbs, Nat.reducePow, Int.reduceToNat, Int.reducePow, Int.reduceMul, Int.reduceAdd, Int.reduceSub, Int.reduceNeg, Int.cast_ofNat_Int, Int.reduceEq, eq_self, Int.reduceLT, Int.reduceLE, Nat.reduceLT, Nat.reduceLeDiff, decide_true, decide_false, Bool.not_true, Bool.not_false, and_true, List.length_set, mut_set, lst_set, mut_new, lst_new, mut_new2, lst_new2, mut_new3, lst_new3, set_new, szs, isDisp, b_law_2] at rest ⊢
      refine s_take (by omega) (by omega) (by omega) g fun v2 ν2 l2 u2 f2 g2 => ?_
      obtain ⟨n, rfl⟩ := Int.eq_ofNat_of_zero_le l2
      simp! only [b_law_3, c']
      exact rest n 8 ν2 (by omega) (by omega) (by omega) (g2.mono (by omega)) (tb.fr f2 h3S)
  · rintro σ ν ⟨⟨x2, x3, x4, x5, x6, x7, rfl⟩, g, tb⟩
    refine ⟨trivial, ?_⟩
    simp! only [b_law_11]
end PV

theorem PySem.Challenge.cw_evenstrand_k13_thinnest_thickest_holds : PySem.Challenge.rw_evenstrand_k13_thinnest_thickest.Holds :=
  PV.end_all PV.kept