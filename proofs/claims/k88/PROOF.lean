import PyProof.Rows.All
import Wide.All
import OpenK.AllK
import Wide.FinOn
import HandS.Base
import HandS.Call
import HandS.Codes
import HandS.Conv
import HandS.Defaults
import HandS.Dict
import HandS.Ends
import HandS.Flow
import HandS.ForMost
import HandS.Head0
import HandS.Head1
import HandS.Head2
import HandS.HeadEnd
import HandS.HeadHook1
import HandS.HeadHook2
import HandS.IsInst
import HandS.List
import HandS.More
import HandS.Set
import HandS.SetBool
import HandS.SetFor
import HandS.Small
import HandS.SortInts
import HandS.Star
import HandS.Strs
import HandS.Style
import HandS.TupAny
import HandS.TupMul
import HandS.WideBits
import HandS.Words
import HandS.WordsExc
import KE.DataMinMax
import KE.GoesEnum
import KE.GoesMore
import KE.GoesZip
import KE.KDictList
import KE.KStar
import PyProof.CollectStr
import PyProof.Rows.Range3
import PyProof.Rows.SumAny
import PySem.Eval
import PySem.Syntax
import PySem.Challenge.RW_quickexact_k88_main_how_often_two_make_a
section
set_option Elab.async false
set_option linter.all false
/-! Q: a small language of pure values with owned lists; its evaluator. -/
namespace Q
open PySem
abbrev Key := Sum Int Str
inductive Val where
  | none | bool (b : Bool) | int (i : Int) | str (x : Str)
  | tup (l : List Val) | lst (l : List Val) | dict (ks : List Key) (vs : List Val) | set (l : List Int)
  /-- a list that nobody changes (the script) -/
  | scr (l : List Val)
instance : Inhabited Val := ⟨.none⟩
inductive Fl where | sh | ow | ln
  deriving DecidableEq
abbrev Slot := Option (Val × Fl)
abbrev Env := List Slot
abbrev Res := Val × Bool
abbrev lim : Nat := 16777216
@[simp] def eget : Env → Nat → Slot
  | [], _ => none
  | s :: _, 0 => s
  | _ :: r, n + 1 => eget r n
@[simp] def eset : Env → Nat → Slot → Env
  | [], _, _ => []
  | _ :: r, 0, x => x :: r
  | s :: r, n + 1, x => s :: eset r n x

inductive Op where | add | sub | mul | fdiv | mod | pow | shl | shr | bor | band
  deriving DecidableEq
inductive Cm where | eq | ne | lt | le | gt | ge | isN | notN | in_ | notin
  deriving DecidableEq
inductive Ty where | int | bool | str | list | tuple
  deriving DecidableEq
inductive B where
  | len | abs | sum | min | max | min2 | max2 | max3 | minD | maxD | all | any | int | sorted | set | sortedset | lenset | dict | str
  deriving DecidableEq
inductive M where | count | index | bitlen | join | get | values
  deriving DecidableEq
/-- targets -/
inductive T where
  | name (i : Nat) | nil | cons (h t : T) | tup (t : T)
/-- expressions; nil, cons, scons make argument lists -/
inductive E where
  | nil | cons (h t : E) | scons (h t : E)
  | var (i : Nat) | const (v : Val)
  | bin (o : Op) (a b : E) | neg (a : E) | not (a : E) | and (a b : E) | or (a b : E) | orV (a b : E)
  | cmp (c : Cm) (a b : E) | chain (c d : Cm) (a b e : E)
  | inv (n : Bool) (a : E) (i : Nat)
  | ite (c a b : E)
  | tup (a : E) | lst (a : E) | dict (a : E)
  | idx (a b : E) | idxv (i : Nat) (b : E) | slice (a lo hi : E) | rev (a : E) | lenv (i : Nat)
  | call (f : Nat) (a : E) | callio (f : Nat) (i : Nat) (a : E)
  | bcall (b : B) (a : E) | list (a : E) | tuple (a : E) | isi (a : E) (ts : List Ty)
  | mcall (m : M) (r : E) (a : E) | getv (i : Nat) (a : E) | popv (i : Nat) (a : E)
  | comp (elt : E) (t : T) (it : E) (c : E)
  | comp2 (elt : E) (t : T) (it : E) (t2 : T) (it2 : E) (c : E)
  | dcomp (k v : E) (t : T) (it : E)
  | range (a : E) | enum (a : E) | zip (a : E) | items (a : E)
  | sortkey (i : Nat)
/-- statements -/
inductive S where
  | skip | seq (a b : S) | expr (e : E) | asg (i : Nat) (e : E) | asgT (t : T) (e : E) | par (is : List Nat) (e : E)
  | seti (i : Nat) (ix e : E) | seti2 (i : Nat) (ix : E) (j : Nat) (jx : E) (e : E) | aug (i : Nat) (o : Op) (e : E) | augi (i : Nat) (ix : E) (o : Op) (e : E)
  | ite (c : E) (a b : S) | for_ (t : T) (it : E) (b : S) | while_ (c : E) (b : S) | ret (e : E) | brk | cont
  | app (i : Nat) (e : E) | ext (i : Nat) (e : E) | fail

/-! ### pure operations -/
mutual
def veq : Val → Val → Bool
  | .none, .none => true
  | .bool a, .bool b => a == b
  | .bool a, .int j => (if a then 1 else 0) == j
  | .int i, .bool b => i == (if b then 1 else 0)
  | .int i, .int j => i == j
  | .str x, .str y => x == y
  | .tup a, .tup b => veqL a b
  | .lst a, .lst b => veqL a b
  | _, _ => false
def veqL : List Val → List Val → Bool
  | [], [] => true
  | a :: r, b :: q => veq a b && veqL r q
  | _, _ => false
end
def strOk (x : Str) : Bool := x.cps.all (· < 0x110000)
/-- data, not too deep -/
def dat : Nat → Val → Bool
  | _, .none => true
  | _, .bool _ => true
  | _, .int _ => true
  | _, .str x => strOk x
  | n + 1, .tup l => l.all (dat n)
  | n + 1, .lst l => l.all (dat n)
  | _, _ => false
def dat8 (v : Val) : Bool := dat 8 v
def flat : Val → Bool
  | .none => true
  | .bool _ => true
  | .int _ => true
  | .str _ => true
  | _ => false
def ixN (n : Nat) (i : Int) : Option Nat := if 0 ≤ i then (if i < n then some i.toNat else none) else if -(n : Int) ≤ i then some (i + n).toNat else none
def atI {α : Type} (xs : List α) (i : Int) : Option α := match ixN xs.length i with
  | some j => xs[j]?
  | none => none
def look : List Key → List Val → Key → Option Val
  | k :: ks, v :: vs, x => if k = x then some v else look ks vs x
  | _, _, _ => none
def hasK (ks : List Key) (x : Key) : Bool := ks.any fun k => decide (k = x)
def replK : List Key → List Val → Key → Val → List Val
  | k :: ks, v :: vs, x, z => (if k = x then z else v) :: replK ks vs x z
  | _, _, _, _ => []
def putK (ks : List Key) (vs : List Val) (x : Key) (z : Val) : List Key × List Val :=
  if hasK ks x = true then (ks, replK ks vs x z) else (ks ++ [x], vs ++ [z])
def asKey : Val → Option Key
  | .int i => some (.inl i)
  | .str x => some (.inr x)
  | _ => none
def keyV : Key → Val
  | .inl i => .int i
  | .inr x => .str x
def okMul (i j : Int) : Bool := decide (i.natAbs < 18446744073709551616) || decide (j.natAbs < 18446744073709551616)
def bits (i : Nat) : Nat := if i = 0 then 0 else i.log2 + 1
def okLen (n : Nat) : Bool := decide (n ≤ 16777216)
def binI (o : Op) (i j : Int) : Option Int := match o with
  | .add => some (i + j)
  | .sub => some (i - j)
  | .mul => if okMul i j then some (i * j) else none
  | .fdiv => if j ≠ 0 ∧ j.natAbs < 1073741824 then some (i.fdiv j) else none
  | .mod => if j ≠ 0 then some (i.fmod j) else none
  | .pow => if 0 ≤ j ∧ j ≤ 1000000 ∧ i.natAbs < 18446744073709551616 then some (i ^ j.toNat) else none
  | .shl => if 0 ≤ i ∧ 0 ≤ j ∧ bits i.toNat + j.toNat ≤ 134217728 then some ((i.toNat * 2 ^ j.toNat : Nat) : Int) else none
  | .shr => if 0 ≤ i ∧ 0 ≤ j then some ((i.toNat / 2 ^ j.toNat : Nat) : Int) else none
  | .bor => if 0 ≤ i ∧ 0 ≤ j then some ((i.toNat ||| j.toNat : Nat) : Int) else none
  | .band => if 0 ≤ i ∧ 0 ≤ j then some ((i.toNat &&& j.toNat : Nat) : Int) else none
def bin (o : Op) : Val → Val → Option Res
  | .int i, .int j => match binI o i j with
    | some k => some (.int k, false)
    | none => none
  | .lst a, .lst b => match o with
    | .add => if okLen (a.length + b.length) then some (.lst (a ++ b), true) else none
    | _ => none
  | .tup a, .tup b => match o with
    | .add => if okLen (a.length + b.length) then some (.tup (a ++ b), false) else none
    | _ => none
  | .str a, .str b => match o with
    | .add => if okLen (a.length + b.length) then some (.str (a ++ b), false) else none
    | _ => none
  | .lst a, .int k => match o with
    | .mul => if k.natAbs < 9223372036854775808 ∧ a.length * k.toNat ≤ 16777216 then some (.lst (List.replicate k.toNat a).flatten, true) else none
    | _ => none
  | .tup a, .int k => match o with
    | .mul => if 1 ≤ k ∧ k ≤ 1000 ∧ a.length ≤ 1000 ∧ a.isEmpty = false then some (.tup (List.replicate k.toNat a).flatten, false) else none
    | _ => none
  | _, _ => none
def strLt (a b : Str) : Bool := decide (a.cps.toList < b.cps.toList)
def cmpI (c : Cm) (i j : Int) : Option Bool := match c with
  | .eq => some (decide (i = j))
  | .ne => some (!decide (i = j))
  | .lt => some (decide (i < j))
  | .le => some (decide (i ≤ j))
  | .gt => some (decide (j < i))
  | .ge => some (decide (j ≤ i))
  | _ => none
def inL (x : Val) (l : List Val) : Option Bool :=
  if flat x && l.all flat then some (l.any fun y => veq y x) else none
def inV (x : Val) : Val → Option Bool
  | .lst l => inL x l
  | .tup l => inL x l
  | .dict ks vs => match asKey x with
    | some k => some (look ks vs k).isSome
    | none => none
  | .set l => match x with
    | .int i => some (decide (i ∈ l))
    | _ => none
  | _ => none
def cmpv (c : Cm) (a b : Val) : Option Bool := match c with
  | .eq => if dat8 a && dat8 b then some (veq a b) else none
  | .ne => if dat8 a && dat8 b then some (!veq a b) else none
  | .isN => match b with
    | .none => some (match a with | .none => true | _ => false)
    | _ => none
  | .notN => match b with
    | .none => some (match a with | .none => false | _ => true)
    | _ => none
  | .in_ => inV a b
  | .notin => match inV a b with
    | some k => some (!k)
    | none => none
  | c => match a, b with
    | .int i, .int j => cmpI c i j
    | .str x, .str y => match c with
      | .lt => some (strLt x y)
      | .gt => some (strLt y x)
      | .le => some (!strLt y x)
      | .ge => some (!strLt x y)
      | _ => none
    | _, _ => none
def asInts : List Val → Option (List Int)
  | [] => some []
  | .int i :: r => match asInts r with
    | some l => some (i :: l)
    | none => none
  | _ => none
def asBools : List Val → Option (List Bool)
  | [] => some []
  | .bool i :: r => match asBools r with
    | some l => some (i :: l)
    | none => none
  | _ => none
def asStrs : List Val → Option (List Str)
  | [] => some []
  | .str i :: r => match asStrs r with
    | some l => some (i :: l)
    | none => none
  | _ => none
def ins (x : Int) : List Int → List Int
  | [] => [x]
  | y :: r => if x ≤ y then x :: y :: r else y :: ins x r
def isort : List Int → List Int
  | [] => []
  | x :: r => ins x (isort r)
/-- without those that come again -/
def dedup : List Int → List Int
  | [] => []
  | x :: r => if x ∈ r then dedup r else x :: dedup r
def maxL : List Int → Option Int
  | [] => none
  | x :: r => some (r.foldl (fun a b => if a < b then b else a) x)
def minL : List Int → Option Int
  | [] => none
  | x :: r => some (r.foldl (fun a b => if b < a then b else a) x)
def intsV (l : List Int) : Val := .lst (l.map .int)
def rangeL (lo n : Nat) (a c : Int) : List Val := match n with
  | 0 => []
  | n + 1 => .int (a + c * lo) :: rangeL (lo + 1) n a c
def ok62 (i : Int) : Bool := decide (-4611686018427387904 ≤ i) && decide (i < 4611686018427387904)
def rangeV (a : List Val) : Option (List Val) := match a with
  | [.int j] => if ok62 j && okLen j.toNat then some (rangeL 0 j.toNat 0 1) else none
  | [.int i, .int j] => if ok62 i && ok62 j && okLen (j - i).toNat then some (rangeL 0 (j - i).toNat i 1) else none
  | [.int i, .int j, .int c] => if ok62 i && ok62 j && okLen (j - i).toNat && decide (0 < c) && decide (c < 1073741824) then some (rangeL 0 (if i < j then (j - i - 1) / c + 1 else 0).toNat i c) else none
  | _ => none
def enumL : Nat → List Val → List Val
  | _, [] => []
  | n, v :: r => .tup [.int n, v] :: enumL (n + 1) r
def zip2 : List Val → List Val → List Val
  | a :: r, b :: q => .tup [a, b] :: zip2 r q
  | _, _ => []
def zip3 : List Val → List Val → List Val → List Val
  | a :: r, b :: q, c :: p => .tup [a, b, c] :: zip3 r q p
  | _, _, _ => []
def zip4 : List Val → List Val → List Val → List Val → List Val
  | a :: r, b :: q, c :: p, d :: o => .tup [a, b, c, d] :: zip4 r q p o
  | _, _, _, _ => []
def seqOf : Val → Option (List Val)
  | .lst l => some l
  | .tup l => some l
  | _ => none
def zipV (a : List Val) : Option (List Val) := match a with
  | [x, y] => match seqOf x, seqOf y with
    | some l, some m => some (zip2 l m)
    | _, _ => none
  | _ => none
def itemsV : List Key → List Val → List Val
  | k :: ks, v :: vs => .tup [keyV k, v] :: itemsV ks vs
  | _, _ => []
def itV : Val → Option (List Val)
  | .scr l => some l
  | .lst l => some l
  | .tup l => some l
  | .dict ks _ => some (ks.map keyV)
  | .str x => if okLen x.cps.size then some (x.cps.toList.map fun c => .str ⟨#[c]⟩) else none
  | _ => none
/-- what list, tuple take -/
def liV : Val → Option (List Val)
  | .scr l => some l
  | .lst l => some l
  | .tup l => some l
  | _ => none
def starV : Val → Option (List Val)
  | .lst l => some l
  | .tup l => some l
  | .dict ks _ => some (ks.map keyV)
  | _ => none
/-- a list of pairs as a dict -/
def dictOf : List Val → List Key → List Val → Option (List Key × List Val)
  | [], ks, vs => some (ks, vs)
  | .tup [k, v] :: r, ks, vs => match asKey k with
    | some x => let p := putK ks vs x v; dictOf r p.1 p.2
    | none => none
  | _, _, _ => none
def dispOf : List Val → List Key → List Val → Option (List Key × List Val)
  | [], ks, vs => some (ks, vs)
  | k :: v :: r, ks, vs => match asKey k with
    | some x => let p := putK ks vs x v; dispOf r p.1 p.2
    | none => none
  | _, _, _ => none
def intsOf : Val → Option (List Int)
  | .lst l => asInts l
  | .tup l => asInts l
  | _ => none
def boolsOf : Val → Option (List Bool)
  | .lst l => asBools l
  | .tup l => asBools l
  | _ => none
def iR (i : Int) : Option Res := some (.int i, false)
def bLen : List Val → Option Res
  | [.lst l] => iR l.length
  | [.scr l] => iR l.length
  | [.tup l] => iR l.length
  | [.dict ks _] => iR ks.length
  | [.str x] => if okLen x.length then iR x.length else none
  | _ => none
def bAbs : List Val → Option Res
  | [.int i] => iR (if i < 0 then -i else i)
  | _ => none
def oI (f : List Int → Option Int) : List Val → Option Res
  | [x] => match intsOf x with
    | some m => match f m with
      | some k => iR k
      | none => none
    | none => none
  | _ => none
def oID (f : List Int → Option Int) : List Val → Option Res
  | [x, d] => match intsOf x with
    | some m => match f m with
      | some k => iR k
      | none => some (d, false)
    | none => none
  | _ => none
def bMin2 : List Val → Option Res
  | [.int i, .int j] => iR (if j < i then j else i)
  | _ => none
def bMax2 : List Val → Option Res
  | [.int i, .int j] => iR (if i < j then j else i)
  | _ => none
def bMax3 : List Val → Option Res
  | [.int i, .int j, .int k] => iR (let m := if i < j then j else i; if m < k then k else m)
  | _ => none
def oB (f : List Bool → Bool) : List Val → Option Res
  | [.lst l] => match asBools l with
    | some m => some (.bool (f m), false)
    | none => none
  | _ => none
def bInt : List Val → Option Res
  | [.int i] => iR i
  | [.bool k] => iR (if k then 1 else 0)
  | _ => none
def oL (f : List Int → Val) (own : Bool) : List Val → Option Res
  | [x] => match intsOf x with
    | some m => some (f m, own)
    | none => none
  | _ => none
/-- of a list alone -/
def oLl (f : List Int → Val) (own : Bool) : List Val → Option Res
  | [.lst l] => match asInts l with
    | some m => some (f m, own)
    | none => none
  | _ => none
def bSet : List Val → Option Res
  | [.lst l] => match asInts l with
    | some m => if m.length ≤ 4000 then some (.set (dedup m), false) else none
    | none => none
  | _ => none
def bSortset : List Val → Option Res
  | [.lst l] => match asInts l with
    | some m => if m.length ≤ 60 then some (intsV (isort (dedup m)), true) else none
    | none => none
  | _ => none
def bLenset : List Val → Option Res
  | [.lst l] => match asInts l with
    | some m => if m.length ≤ 4000 then iR (dedup m).length else none
    | none => match asBools l with
      | some m => iR ((if true ∈ m then 1 else 0) + (if false ∈ m then 1 else 0))
      | none => none
  | _ => none
def bDict : List Val → Option Res
  | [.lst l] => match dictOf l [] [] with
    | some (ks, vs) => some (.dict ks vs, true)
    | none => none
  | _ => none
def bcallV : B → List Val → Option Res
  | .len => bLen
  | .abs => bAbs
  | .sum => oI fun m => some m.sum
  | .min => oI minL
  | .max => oI maxL
  | .minD => fun _ => none
  | .maxD => fun _ => none
  | .min2 => bMin2
  | .max2 => bMax2
  | .max3 => fun _ => none
  | .all => oB (·.all id)
  | .any => oB (·.any id)
  | .int => bInt
  | .sorted => oLl (fun m => intsV (isort m)) true
  | .sortedset => bSortset
  | .lenset => bLenset
  | .set => bSet
  | .dict => bDict
  | .str => fun _ => none
def isTy : Ty → Val → Option Bool
  | .int, .int _ => some true
  | .int, .bool _ => some true
  | .bool, .bool _ => some true
  | .str, .str _ => some true
  | .list, .lst _ => some true
  | .tuple, .tup _ => some true
  | _, .dict _ _ => none
  | _, .set _ => none
  | _, .scr _ => none
  | _, _ => some false
def isTys : List Ty → Val → Option Bool
  | [], _ => some false
  | t :: r, v => match isTy t v with
    | some true => some true
    | some false => isTys r v
    | none => none
def mCount : Val → List Val → Option Res
  | .lst l, [x] => if l.all flat && flat x then iR (l.countP fun y => veq y x) else none
  | _, _ => none
def mIndex : Val → List Val → Option Res
  | .lst l, [x] => if l.all flat && flat x then (match l.findIdx? fun y => veq y x with | some k => iR k | none => none) else none
  | _, _ => none
def mBits : Val → List Val → Option Res
  | .int i, [] => if 0 ≤ i then iR (bits i.toNat) else none
  | _, _ => none
def mGet : Val → List Val → Option Res
  | .dict ks vs, [x] => match asKey x with
    | some k => some ((look ks vs k).getD .none, false)
    | none => none
  | .dict ks vs, [x, d] => match asKey x with
    | some k => some ((look ks vs k).getD d, false)
    | none => none
  | _, _ => none
def mValues : Val → List Val → Option Res
  | .dict _ vs, [] => some (.lst vs, false)
  | _, _ => none
def mcallV : M → Val → List Val → Option Res
  | .count => fun _ _ => none
  | .index => mIndex
  | .bitlen => mBits
  | .get => mGet
  | .values => mValues
  | .join => fun _ _ => none
def idxV (a b : Val) : Option Val := match a, b with
  | .lst l, .int i => atI l i
  | .scr l, .int i => atI l i
  | .tup l, .int i => atI l i
  | .dict ks vs, k => match asKey k with
    | some x => look ks vs x
    | none => none
  | _, _ => none
/-- bounds of slices -/
def sIx (n d : Nat) : Option Int → Nat
  | none => d
  | some v => if v < 0 then (v + (n : Int)).toNat else min v.toNat n
def cutL (l : List Val) (lo hi : Option Int) : List Val := (l.drop (sIx l.length 0 lo)).take (sIx l.length l.length hi - sIx l.length 0 lo)
def sliceV (a : Val) (lo hi : Option Int) : Option Res := match a with
  | .scr l => some (.lst (cutL l lo hi), true)
  | .lst l => some (.lst (cutL l lo hi), true)
  | .tup l => some (.tup (cutL l lo hi), false)
  | _ => none
/-- store into an owned list or dict -/
def setV (a k v : Val) : Option Val := match a, k with
  | .lst l, .int i => match ixN l.length i with
    | some j => some (.lst (l.set j v))
    | none => none
  | .dict ks vs, k => match asKey k with
    | some x => if ks.length < 16777216 then let p := putK ks vs x v; some (.dict p.1 p.2) else none
    | none => none
  | _, _ => none
def popV (a : Val) (k : List Val) : Option (Val × Val) := match a, k with
  | .lst l, [] => match l.getLast? with
    | some v => some (v, .lst l.dropLast)
    | none => none
  | .lst l, [.int i] => match ixN l.length i with
    | some j => match l[j]? with
      | some v => some (v, .lst (l.eraseIdx j))
      | none => none
    | none => none
  | _, _ => none

/-- counters sorted by size and number -/
def keyLe (m : List Int) (i j : Nat) : Bool := decide ((m.getD i 0).natAbs < (m.getD j 0).natAbs) || (decide ((m.getD i 0).natAbs = (m.getD j 0).natAbs) && decide (i ≤ j))
def insK (m : List Int) (x : Nat) : List Nat → List Nat
  | [] => [x]
  | y :: r => if keyLe m x y then x :: y :: r else y :: insK m x r
def sortKN (m : List Int) : List Nat → List Nat
  | [] => []
  | x :: r => insK m x (sortKN m r)
def sortK (m : List Int) : List Int := (sortKN m (List.range m.length)).map fun (n : Nat) => (n : Int)

/-! ### the evaluator -/
/-- a call: the def, whether its first argument is lent, the arguments; the result, the lent one behind it -/
abbrev Cl := Nat → Bool → List Val → Option (Res × Val)
def vals (l : List Res) : List Val := l.map (·.1)
def owned : Fl → Bool
  | .sh => false
  | _ => true
/-- a value bound to a target; names alone, none of them owned -/
def bindT : T → Val → Env → Option Env
  | .name i, v, env => match eget env i with
    | some (_, .ln) => none
    | _ => some (eset env i (some (v, .sh)))
  | .tup t, .tup vs, env => bindTs t vs env
  | _, _, _ => none
where bindTs : T → List Val → Env → Option Env
  | .nil, [], env => some env
  | .cons h t, v :: vs, env => match bindT h v env with
    | some env => bindTs t vs env
    | none => none
  | _, _, _ => none

/-- the slots of a target -/
def slotsT : T → List Nat
  | .name i => [i]
  | .nil => []
  | .cons h t => slotsT h ++ slotsT t
  | .tup t => slotsT t
/-- none of the slots is owned -/
def noOwn : List Nat → Env → Bool
  | [], _ => true
  | i :: r, env => (match eget env i with | some (_, .ow) => false | some (_, .ln) => false | _ => true) && noOwn r env
/-- the slots made empty -/
def clearE : List Nat → Env → Env
  | [], env => env
  | i :: r, env => clearE r (eset env i none)
/-- the old slots put back -/
def backE (old : Env) : List Nat → Env → Env
  | [], env => env
  | i :: r, env => backE old r (eset env i (eget old i))
def compLoop (vs : List Nat) (t : T) (c : Env → Option (Bool × Env)) (f : Env → Option (Res × Env)) : List Val → Env → List Val → Option (List Val × Env)
  | [], env, acc => some (acc, env)
  | v :: r, env, acc => match bindT t v (clearE vs env) with
    | none => none
    | some env => match c env with
      | none => none
      | some (false, env) => compLoop vs t c f r env acc
      | some (true, env) => match f env with
        | none => none
        | some (x, env) => compLoop vs t c f r env (acc ++ [x.1])
def comp2Loop (vs : List Nat) (t : T) (g : Env → List Val → Option (List Val × Env)) : List Val → Env → List Val → Option (List Val × Env)
  | [], env, acc => some (acc, env)
  | v :: r, env, acc => match bindT t v (clearE vs env) with
    | none => none
    | some env => match g env acc with
      | none => none
      | some (acc, env) => comp2Loop vs t g r env acc
def dcompLoop (vs : List Nat) (t : T) (k f : Env → Option (Res × Env)) : List Val → Env → List Key → List Val → Option (List Key × List Val × Env)
  | [], env, ks, zs => some (ks, zs, env)
  | v :: r, env, ks, zs => match bindT t v (clearE vs env) with
    | none => none
    | some env => match k env with
      | none => none
      | some (x, env) => match f env with
        | none => none
        | some (z, env) => match asKey x.1 with
          | none => none
          | some x => let p := putK ks zs x z.1; dcompLoop vs t k f r env p.1 p.2
def boolR (r : Option (Res × Env)) : Option (Bool × Env) := match r with
  | some ((.bool b, _), env) => some (b, env)
  | _ => none
def itR (r : Option (Res × Env)) : Option (List Val × Env) := match r with
  | some (x, env) => (match itV x.1 with | some m => some (m, env) | none => none)
  | none => none
/-- zip(..) -/
def isZipE : E → Bool
  | .zip _ => true
  | _ => false
def liR (r : Option (Res × Env)) : Option (List Val × Env) := match r with
  | some (x, env) => (match liV x.1 with | some m => some (m, env) | none => none)
  | none => none
def mk (r : Option Res) (env : Env) : Option (Res × Env) := match r with
  | some x => some (x, env)
  | none => none
def bR (r : Option Bool) : Option Res := match r with
  | some x => some (.bool x, false)
  | none => none
def vR (r : Option Val) : Option Res := match r with
  | some x => some (x, false)
  | none => none
def mkB (r : Option Bool) (env : Env) : Option (Res × Env) := mk (bR r) env
def mkV (r : Option Val) (env : Env) : Option (Res × Env) := mk (vR r) env
/-- a slice's bound -/
def bndR : E → Option (Res × Env) → Env → Option (Option Int × Env)
  | .nil, _, env => some (none, env)
  | _, some ((.int i, _), env), _ => some (some i, env)
  | _, _, _ => none
def has (env : Env) (i : Nat) : Bool := (eget env i).isSome
def hasL (env : Env) (i : Nat) : Bool := match eget env i with
  | some (.lst _, _) => true
  | _ => false
def hasD (env : Env) (i : Nat) : Bool := match eget env i with
  | some (.dict _ _, _) => true
  | _ => false
def readV (env : Env) (i : Nat) : Option (Res × Env) := match eget env i with
  | some (v, .sh) => some ((v, false), env)
  | some (v, .ow) => some ((v, false), eset env i (some (v, .sh)))
  | _ => none
section
variable (cl : Cl)
mutual
def ev : E → Env → Option (Res × Env)
  | .var i, env => readV env i
  | .const v, env => some ((v, false), env)
  | .bin o a b, env => match ev a env with
    | some (x, env) => match ev b env with
      | some (y, env) => mk (bin o x.1 y.1) env
      | none => none
    | none => none
  | .neg a, env => match ev a env with
    | some ((.int i, _), env) => some ((.int (-i), false), env)
    | _ => none
  | .not a, env => match boolR (ev a env) with
    | some (c, env) => some ((.bool (!c), false), env)
    | none => none
  | .and a b, env => match boolR (ev a env) with
    | some (true, env) => (match boolR (ev b env) with | some (c, env) => some ((.bool c, false), env) | none => none)
    | some (false, env) => some ((.bool false, false), env)
    | none => none
  | .or a b, env => match boolR (ev a env) with
    | some (true, env) => some ((.bool true, false), env)
    | some (false, env) => (match boolR (ev b env) with | some (c, env) => some ((.bool c, false), env) | none => none)
    | none => none
  | .orV a b, env => match ev a env with
    | some ((.lst l, f), env) => if l.isEmpty then (match ev b env with | some ((.lst m, f), env) => some ((.lst m, f), env) | _ => none) else some ((.lst l, f), env)
    | _ => none
  | .cmp c a b, env => match ev a env with
    | some (x, env) => match ev b env with
      | some (y, env) => mkB (cmpv c x.1 y.1) env
      | none => none
    | none => none
  | .chain c d a b e, env => match ev a env with
    | some (x, env) => match ev b env with
      | some (y, env) => match cmpv c x.1 y.1 with
        | some true => (match ev e env with | some (z, env) => mkB (cmpv d y.1 z.1) env | none => none)
        | some false => some ((.bool false, false), env)
        | none => none
      | none => none
    | none => none
  | .inv n a i, env => match ev a env with
    | some (x, env) => match eget env i with
      | some (v, _) => (match inV x.1 v with | some k => some ((.bool (if n then !k else k), false), env) | none => none)
      | none => none
    | none => none
  | .ite c a b, env => match boolR (ev c env) with
    | some (true, env) => ev a env
    | some (false, env) => ev b env
    | none => none
  | .tup a, env => match evs a env with
    | some (l, env) => if okLen l.length then some ((.tup (vals l), false), env) else none
    | none => none
  | .lst a, env => match evs a env with
    | some (l, env) => if okLen l.length then some ((.lst (vals l), true), env) else none
    | none => none
  | .dict a, env => match evs a env with
    | some (l, env) => (match dispOf (vals l) [] [] with | some (ks, vs) => some ((.dict ks vs, true), env) | none => none)
    | none => none
  | .idx a b, env => match ev a env with
    | some (x, env) => match ev b env with
      | some (y, env) => mkV (idxV x.1 y.1) env
      | none => none
    | none => none
  | .idxv i b, env => if has env i then match ev b env with
      | some (y, env) => match eget env i with
        | some (v, _) => mkV (idxV v y.1) env
        | none => none
      | none => none
    else none
  | .slice a lo hi, env => match ev a env with
    | some (x, env) => match bndR lo (ev lo env) env with
      | some (l, env) => match bndR hi (ev hi env) env with
        | some (h, env) => mk (sliceV x.1 l h) env
        | none => none
      | none => none
    | none => none
  | .rev a, env => match ev a env with
    | some ((.lst l, _), env) => some ((.lst l.reverse, true), env)
    | _ => none
  | .lenv i, env => match eget env i with
    | some (v, _) => mk (bLen [v]) env
    | none => none
  | .call f a, env => match evs a env with
    | some (l, env) => (match cl f false (vals l) with | some (r, _) => some (r, env) | none => none)
    | none => none
  | .callio f i a, env => if has env i then match evs a env with
      | some (l, env) => match eget env i with
        | some (v, .sh) => none
        | some (v, k) => (match cl f true (v :: vals l) with | some (r, v') => some (r, eset env i (some (v', k))) | none => none)
        | none => none
      | none => none
    else none
  | .bcall b a, env => match evs a env with
    | some (l, env) => mk (bcallV b (vals l)) env
    | none => none
  | .list a, env => if isZipE a then none else match liR (ev a env) with
    | some (l, env) => some ((.lst l, true), env)
    | none => none
  | .tuple a, env => if isZipE a then none else match liR (ev a env) with
    | some (l, env) => some ((.tup l, false), env)
    | none => none
  | .range a, env => match evs a env with
    | some (l, env) => (match rangeV (vals l) with | some m => some ((.lst m, false), env) | none => none)
    | none => none
  | .enum a, env => match ev a env with
    | some ((.lst m, _), env) => some ((.lst (enumL 0 m), false), env)
    | _ => none
  | .zip a, env => match evs a env with
    | some (l, env) => (match zipV (vals l) with | some m => some ((.lst m, false), env) | none => none)
    | none => none
  | .items a, env => match ev a env with
    | some ((.dict ks vs, _), env) => some ((.lst (itemsV ks vs), false), env)
    | _ => none
  | .isi a ts, env => match ev a env with
    | some (x, env) => mkB (isTys ts x.1) env
    | none => none
  | .mcall m r a, env => match ev r env with
    | some (x, env) => match evs a env with
      | some (l, env) => mk (mcallV m x.1 (vals l)) env
      | none => none
    | none => none
  | .getv i a, env => if hasD env i then match evs a env with
      | some (l, env) => match eget env i with
        | some (v, _) => mk (mGet v (vals l)) env
        | none => none
      | none => none
    else none
  | .popv i a, env => if hasL env i then match evs a env with
      | some (l, env) => match eget env i with
        | some (_, .sh) => none
        | some (v, k) => (match popV v (vals l) with | some (x, v') => some ((x, false), eset env i (some (v', k))) | none => none)
        | none => none
      | none => none
    else none
  | .comp e t it c, env => match itR (ev it env) with
    | some (l, env) => if noOwn (slotsT t) env then
        match compLoop (slotsT t) t (fun env => boolR (ev c env)) (fun env => ev e env) l env [] with
        | some (acc, env3) => some ((.lst acc, true), backE env (slotsT t) env3)
        | none => none
      else none
    | none => none
  | .comp2 e t it t2 it2 c, env => match itR (ev it env) with
    | some (l, env) => if noOwn (slotsT t ++ slotsT t2) env then
        match comp2Loop (slotsT t ++ slotsT t2) t (fun env acc => match itR (ev it2 env) with
          | some (m, env) => if okLen (acc.length + m.length) then compLoop (slotsT t2) t2 (fun env => boolR (ev c env)) (fun env => ev e env) m env acc else none
          | none => none) l env [] with
        | some (acc, env3) => some ((.lst acc, true), backE env (slotsT t ++ slotsT t2) env3)
        | none => none
      else none
    | none => none
  | .dcomp k e t it, env => match itR (ev it env) with
    | some (l, env) => if noOwn (slotsT t) env then
        match dcompLoop (slotsT t) t (fun env => ev k env) (fun env => ev e env) l env [] [] with
        | some (ks, vs, env3) => some ((.dict ks vs, true), backE env (slotsT t) env3)
        | none => none
      else none
    | none => none
  | .sortkey i, env => match eget env i with
    | some (.lst l, .sh) => (match asInts l with | some m => some ((.tup ((sortK m).map .int), false), env) | none => none)
    | some (.tup l, .sh) => (match asInts l with | some m => some ((.tup ((sortK m).map .int), false), env) | none => none)
    | _ => none
  | _, _ => none
/-- argument lists -/
def evs : E → Env → Option (List Res × Env)
  | .nil, env => some ([], env)
  | .cons h t, env => match ev h env with
    | some (x, env) => match evs t env with
      | some (l, env) => some (x :: l, env)
      | none => none
    | none => none
  | .scons h t, env => match ev h env with
    | some (x, env) => match starV x.1 with
      | some m => match evs t env with
        | some (l, env) => some (m.map (·, false) ++ l, env)
        | none => none
      | none => none
    | none => none
  | _, _ => none
end
end
inductive Flow where | nx | ret (r : Res) | brk | ct
def forLoop (t : T) (f : Env → Option (Flow × Env)) : List Val → Env → Option (Flow × Env)
  | [], env => some (.nx, env)
  | v :: r, env => match bindT t v env with
    | none => none
    | some env => match f env with
      | some (.nx, env) => forLoop t f r env
      | some (.ct, env) => forLoop t f r env
      | some (.brk, env) => some (.nx, env)
      | some (.ret r, env) => some (.ret r, env)
      | none => none
def whileLoop (c : Env → Option (Bool × Env)) (f : Env → Option (Flow × Env)) : Nat → Env → Option (Flow × Env)
  | 0, _ => none
  | n + 1, env => match c env with
    | none => none
    | some (false, env) => some (.nx, env)
    | some (true, env) => match f env with
      | some (.nx, env) => whileLoop c f n env
      | some (.ct, env) => whileLoop c f n env
      | some (.brk, env) => some (.nx, env)
      | some (.ret r, env) => some (.ret r, env)
      | none => none
/-- a result stored in a slot -/
def put (env : Env) (i : Nat) (r : Res) : Option Env := match eget env i with
  | some (_, .ln) => none
  | _ => some (eset env i (some (r.1, if r.2 then .ow else .sh)))
def puts : List Nat → List Res → Env → Option Env
  | [], [], env => some env
  | i :: is, r :: rs, env => match put env i r with
    | some env => puts is rs env
    | none => none
  | _, _, _ => none
def nxt (r : Option Env) : Option (Flow × Env) := match r with
  | some env => some (.nx, env)
  | none => none
/-- an owned slot changed -/
def chg (env : Env) (i : Nat) (f : Val → Option Val) : Option Env := match eget env i with
  | some (_, .sh) => none
  | some (v, k) => (match f v with | some v' => some (eset env i (some (v', k))) | none => none)
  | none => none
def appV (x : Val) : Val → Option Val
  | .lst l => if l.length < 16777216 then some (.lst (l ++ [x])) else none
  | _ => none
def extV (m : List Val) : Val → Option Val
  | .lst l => if okLen (l.length + m.length) then some (.lst (l ++ m)) else none
  | _ => none
section
variable (cl : Cl)
def ex : S → Env → Option (Flow × Env)
  | .skip, env => some (.nx, env)
  | .seq a b, env => match ex a env with
    | some (.nx, env) => ex b env
    | r => r
  | .expr e, env => match ev cl e env with
    | some (_, env) => some (.nx, env)
    | none => none
  | .asg i e, env => match ev cl e env with
    | some (r, env) => nxt (put env i r)
    | none => none
  | .asgT t e, env => match ev cl e env with
    | some (r, env) => nxt (bindT t r.1 env)
    | none => none
  | .par is e, env => match evs cl e env with
    | some (l, env) => nxt (puts is l env)
    | none => none
  | .seti i ix e, env => match ev cl e env with
    | some (r, env) => if has env i then match ev cl ix env with
        | some (k, env) => nxt (chg env i fun v => setV v k.1 r.1)
        | none => none
      else none
    | none => none
  | .seti2 i ix j jx e, env => match ev cl e env with
    | some ((.tup [a, b], _), env) => if has env i then match ev cl ix env with
        | some (k, env) => match chg env i fun v => setV v k.1 a with
          | some env => if has env j then match ev cl jx env with
              | some (k, env) => nxt (chg env j fun v => setV v k.1 b)
              | none => none
            else none
          | none => none
        | none => none
      else none
    | _ => none
  | .aug i o e, env => match eget env i with
    | some (.int x, .sh) => match ev cl e env with
      | some ((.int y, _), env) => (match binI o x y with | some z => some (.nx, eset env i (some (.int z, .sh))) | none => none)
      | _ => none
    | _ => none
  | .augi i ix o e, env => if has env i then match ev cl ix env with
      | some (k, env) => match eget env i with
        | some (v, _) => match idxV v k.1 with
          | some (.int x) => match ev cl e env with
            | some ((.int y, _), env) => (match binI o x y with | some z => nxt (chg env i fun v => setV v k.1 (.int z)) | none => none)
            | _ => none
          | _ => none
        | none => none
      | none => none
    else none
  | .ite c a b, env => match boolR (ev cl c env) with
    | some (true, env) => ex a env
    | some (false, env) => ex b env
    | none => none
  | .for_ t it b, env => match itR (ev cl it env) with
    | some (l, env) => forLoop t (fun env => ex b env) l env
    | none => none
  | .while_ c b, env => whileLoop (fun env => boolR (ev cl c env)) (fun env => ex b env) 1000000000 env
  | .ret e, env => match e with
    | .var i => match eget env i with
      | some (v, .sh) => some (.ret (v, false), env)
      | some (v, .ow) => some (.ret (v, true), eset env i none)
      | _ => none
    | e => match ev cl e env with
      | some (r, env) => some (.ret r, env)
      | none => none
  | .brk, env => some (.brk, env)
  | .cont, env => some (.ct, env)
  | .app i e, env => if hasL env i then match ev cl e env with
      | some (r, env) => nxt (chg env i (appV r.1))
      | none => none
    else none
  | .ext i e, env => if hasL env i then match ev cl e env with
      | some ((.lst m, _), env) => nxt (chg env i (extV m))
      | _ => none
    else none
  | .fail, _ => none
end
/-- a def: how many parameters, how many slots, its body -/
structure Fn where
  np : Nat
  ns : Nat
  body : S
def fresh (n : Nat) : Env := List.replicate n none
def entry (f : Fn) (io : Bool) (a : List Val) : Env := (match io, a with
  | true, v :: r => some (v, .ln) :: r.map (fun v => some (v, .sh))
  | _, a => a.map (fun v => some (v, .sh))) ++ fresh (f.ns - f.np)
def lent (io : Bool) (env : Env) : Option Val := if io then (match eget env 0 with | some (v, .ln) => some v | _ => none) else some .none
def runF (cl : Cl) (f : Fn) (io : Bool) (a : List Val) : Option (Res × Val) :=
  if a.length = f.np then
    match ex cl f.body (entry f io a) with
    | some (.ret r, env) => (match lent io env with | some v => some (r, v) | none => none)
    | some (.nx, env) => (match lent io env with | some v => some ((.none, false), v) | none => none)
    | _ => none
  else none
def clN (F : Nat → Option Fn) : Nat → Cl
  | 0 => fun _ _ _ => none
  | n + 1 => fun f io a => match F f with
    | some d => runF (clN F n) d io a
    | none => none
end Q

end
section
set_option maxRecDepth 100000
/-! the program's defs, as QComp compiles them (printed by genpir.py) -/
namespace Q
open PySem
/-- slots: 0 thing, 1 own -/
def p_tupled : Fn := ⟨1, 2, (.ret (.ite (.isi (.var 0) [.list, .tuple]) (.tuple (.comp (.call 0 (.cons (.var 1) .nil)) (.name 1) (.var 0) (.const (.bool true)))) (.var 0)))⟩
/-- slots: 0 coefficients, 1 bounds, 2 own, 3 most -/
def p_least_sum : Fn := ⟨2, 4, (.ret (.bcall .sum (.cons (.comp (.bin .mul (.var 2) (.var 3)) (.tup (.cons (.name 2) (.cons (.name 3) .nil))) (.zip (.cons (.var 0) (.cons (.var 1) .nil))) (.cmp .lt (.var 2) (.const (.int 0)))) .nil)))⟩
/-- slots: 0 coefficients, 1 bounds, 2 own, 3 most -/
def p_greatest_sum : Fn := ⟨2, 4, (.ret (.bcall .sum (.cons (.comp (.bin .mul (.var 2) (.var 3)) (.tup (.cons (.name 2) (.cons (.name 3) .nil))) (.zip (.cons (.var 0) (.cons (.var 1) .nil))) (.cmp .gt (.var 2) (.const (.int 0)))) .nil)))⟩
/-- slots: 0 coefficients, 1 found, 2 own, 3 near -/
def b_step_1 : S := (.par [1, 3] (.cons (.var 3) (.cons (.bin .mod (.var 1) (.var 3)) .nil)))
def b_step_2 : S := (.seq (.asg 3 (.bcall .abs (.cons (.var 2) .nil)))
    (.while_ (.cmp .gt (.var 3) (.const (.int 0))) b_step_1))
def p_step : Fn := ⟨1, 4, (.seq (.asg 1 (.const (.int 0)))
    (.seq (.for_ (.name 2) (.var 0) b_step_2)
    (.ret (.var 1))))⟩
/-- slots: 0 one, 1 number -/
def p_divides : Fn := ⟨2, 2, (.ret (.ite (.cmp .eq (.var 0) (.const (.int 0))) (.cmp .eq (.var 1) (.const (.int 0))) (.cmp .eq (.bin .mod (.var 1) (.var 0)) (.const (.int 0)))))⟩
/-- slots: 0 coefficients, 1 bounds, 2 found, 3 own, 4 most, 5 here, 6 left, 7 part, 8 some -/
def b_marks_along_1 : S := (.seq (.asg 8 (.bcall .min2 (.cons (.var 7) (.cons (.var 6) .nil))))
    (.seq (.asg 5 (.bin .bor (.var 5) (.bin .shl (.var 5) (.bin .mul (.bcall .abs (.cons (.var 3) .nil)) (.var 8)))))
    (.par [6, 7] (.cons (.bin .sub (.var 6) (.var 8)) (.cons (.bin .add (.var 7) (.var 7)) .nil)))))
def b_marks_along_2 : S := (.seq (.par [5, 6, 7] (.cons (.idxv 2 (.neg (.const (.int 1)))) (.cons (.var 4) (.cons (.const (.int 1)) .nil))))
    (.seq (.while_ (.cmp .gt (.var 6) (.const (.int 0))) b_marks_along_1)
    (.app 2 (.var 5))))
def p_marks_along : Fn := ⟨2, 9, (.seq (.asg 2 (.lst (.cons (.const (.int 1)) .nil)))
    (.seq (.for_ (.tup (.cons (.name 3) (.cons (.name 4) .nil))) (.zip (.cons (.var 0) (.cons (.var 1) .nil))) b_marks_along_2)
    (.ret (.var 2))))⟩
/-- slots: 0 marks, 1 at -/
def p_is_marked : Fn := ⟨2, 2, (.ret (.and (.chain .le .lt (.const (.int 0)) (.var 1) (.mcall .bitlen (.var 0) .nil)) (.cmp .eq (.bin .band (.bin .shr (.var 0) (.var 1)) (.const (.int 1))) (.const (.int 1)))))⟩
/-- slots: 0 coefficients, 1 bounds, 2 number -/
def p_is_sum : Fn := ⟨3, 3, (.ret (.call 6 (.cons (.idx (.call 5 (.cons (.var 0) (.cons (.var 1) .nil))) (.neg (.const (.int 1)))) (.cons (.bin .sub (.var 2) (.call 1 (.cons (.var 0) (.cons (.var 1) .nil)))) .nil))))⟩
/-- slots: 0 coefficients, 1 bounds, 2 marks, 3 least, 4 at -/
def p_sums : Fn := ⟨2, 5, (.seq (.par [2, 3] (.cons (.idx (.call 5 (.cons (.var 0) (.cons (.var 1) .nil))) (.neg (.const (.int 1)))) (.cons (.call 1 (.cons (.var 0) (.cons (.var 1) .nil))) .nil)))
    (.ret (.comp (.bin .add (.var 3) (.var 4)) (.name 4) (.range (.cons (.mcall .bitlen (.var 2) .nil) .nil)) (.call 6 (.cons (.var 2) (.cons (.var 4) .nil))))))⟩
/-- slots: 0 coefficients, 1 bounds, 2 number, 3 rows, 4 at, 5 found, 6 own, 7 most, 8 marks, 9 many, 10 some -/
def b_counters_for_1 : S := (.seq (.asg 9 (.bcall .min (.cons (.comp (.var 10) (.name 10) (.range (.cons (.bin .add (.var 7) (.const (.int 1))) .nil)) (.call 6 (.cons (.var 8) (.cons (.bin .sub (.var 4) (.bin .mul (.bcall .abs (.cons (.var 6) .nil)) (.var 10))) .nil)))) .nil)))
    (.seq (.asg 4 (.bin .sub (.var 4) (.bin .mul (.bcall .abs (.cons (.var 6) .nil)) (.var 9))))
    (.app 5 (.ite (.cmp .gt (.var 6) (.const (.int 0))) (.var 9) (.bin .sub (.var 7) (.var 9))))))
def p_counters_for : Fn := ⟨3, 11, (.seq (.par [3, 4, 5] (.cons (.call 5 (.cons (.var 0) (.cons (.var 1) .nil))) (.cons (.bin .sub (.var 2) (.call 1 (.cons (.var 0) (.cons (.var 1) .nil)))) (.cons (.lst .nil) .nil))))
    (.seq (.ite (.not (.call 6 (.cons (.idxv 3 (.neg (.const (.int 1)))) (.cons (.var 4) .nil))))
    (.ret (.const .none))
    .skip)
    (.seq (.for_ (.tup (.cons (.name 6) (.cons (.name 7) (.cons (.name 8) .nil)))) (.rev (.list (.zip (.cons (.var 0) (.cons (.var 1) (.cons (.var 3) .nil)))))) b_counters_for_1)
    (.ret (.tuple (.rev (.var 5)))))))⟩
/-- slots: 0 coefficients, 1 bounds, 2 number, 3 least, 4 greatest, 5 ways, 6 own, 7 most, 8 size, 9 more, 10 at, 11 many, 12 ahead, 13 gone -/
def b_how_many_counters_1 : S := (.seq (.asg 12 (.ite (.cmp .ge (.var 10) (.var 8)) (.idxv 9 (.bin .sub (.var 10) (.var 8))) (.const (.int 0))))
    (.seq (.asg 13 (.bin .sub (.var 10) (.bin .mul (.var 8) (.bin .add (.var 7) (.const (.int 1))))))
    (.app 9 (.bin .sub (.bin .add (.var 11) (.var 12)) (.ite (.cmp .ge (.var 13) (.const (.int 0))) (.idxv 5 (.var 13)) (.const (.int 0)))))))
def b_how_many_counters_2 : S := (.seq (.par [8, 9] (.cons (.bcall .abs (.cons (.var 6) .nil)) (.cons (.lst .nil) .nil)))
    (.seq (.for_ (.tup (.cons (.name 10) (.cons (.name 11) .nil))) (.enum (.var 5)) b_how_many_counters_1)
    (.asg 5 (.var 9))))
def p_how_many_counters : Fn := ⟨3, 14, (.seq (.par [3, 4] (.cons (.call 1 (.cons (.var 0) (.cons (.var 1) .nil))) (.cons (.call 2 (.cons (.var 0) (.cons (.var 1) .nil))) .nil)))
    (.seq (.ite (.not (.chain .le .le (.var 3) (.var 2) (.var 4)))
    (.ret (.const (.int 0)))
    .skip)
    (.seq (.asg 5 (.bin .add (.lst (.cons (.const (.int 1)) .nil)) (.bin .mul (.lst (.cons (.const (.int 0)) .nil)) (.bin .sub (.var 4) (.var 3)))))
    (.seq (.for_ (.tup (.cons (.name 6) (.cons (.name 7) .nil))) (.zip (.cons (.var 0) (.cons (.var 1) .nil))) b_how_many_counters_2)
    (.ret (.idxv 5 (.bin .sub (.var 2) (.var 3))))))))⟩
/-- slots: 0 coefficients -/
def p_sorted_counters : Fn := ⟨1, 1, (.ret (.sortkey 0))⟩
/-- slots: 0 coefficients, 1 bounds, 2 order, 3 found, 4 place -/
def b_reaches_1 : S := (.app 3 (.bin .add (.idxv 3 (.neg (.const (.int 1)))) (.bin .mul (.bcall .abs (.cons (.idxv 0 (.var 4)) .nil)) (.idxv 1 (.var 4)))))
def p_reaches : Fn := ⟨3, 5, (.seq (.asg 3 (.lst (.cons (.const (.int 0)) .nil)))
    (.seq (.for_ (.name 4) (.var 2) b_reaches_1)
    (.ret (.var 3))))⟩
/-- slots: 0 coefficients, 1 bounds, 2 order, 3 one, 4 place, 5 reach -/
def b_first_break_1 : S := (.ite (.cmp .gt (.bcall .abs (.cons (.idxv 0 (.var 4)) .nil)) (.bin .add (.var 5) (.var 3)))
    (.ret (.var 5))
    .skip)
def p_first_break : Fn := ⟨2, 6, (.seq (.par [2, 3] (.cons (.call 11 (.cons (.var 0) .nil)) (.cons (.call 3 (.cons (.var 0) .nil)) .nil)))
    (.seq (.for_ (.tup (.cons (.name 4) (.cons (.name 5) .nil))) (.zip (.cons (.var 2) (.cons (.call 12 (.cons (.var 0) (.cons (.var 1) (.cons (.var 2) .nil)))) .nil))) b_first_break_1)
    (.ret (.const .none))))⟩
/-- slots: 0 coefficients, 1 bounds -/
def p_is_exact : Fn := ⟨2, 2, (.ret (.cmp .isN (.call 13 (.cons (.var 0) (.cons (.var 1) .nil))) (.const .none)))⟩
/-- slots: 0 coefficients, 1 bounds -/
def p_chain : Fn := ⟨2, 2, (.ret (.ite (.call 14 (.cons (.var 0) (.cons (.var 1) .nil))) (.call 11 (.cons (.var 0) .nil)) (.const .none)))⟩
/-- slots: 0 coefficients, 1 bounds, 2 reach -/
def p_first_hole : Fn := ⟨2, 3, (.seq (.asg 2 (.call 13 (.cons (.var 0) (.cons (.var 1) .nil))))
    (.ret (.ite (.cmp .isN (.var 2) (.const .none)) (.const .none) (.bin .add (.bin .add (.call 1 (.cons (.var 0) (.cons (.var 1) .nil))) (.var 2)) (.call 3 (.cons (.var 0) .nil))))))⟩
/-- slots: 0 coefficients, 1 bounds, 2 reach -/
def p_last_hole : Fn := ⟨2, 3, (.seq (.asg 2 (.call 13 (.cons (.var 0) (.cons (.var 1) .nil))))
    (.ret (.ite (.cmp .isN (.var 2) (.const .none)) (.const .none) (.bin .sub (.bin .sub (.call 2 (.cons (.var 0) (.cons (.var 1) .nil))) (.var 2)) (.call 3 (.cons (.var 0) .nil))))))⟩
/-- slots: 0 coefficients, 1 bounds, 2 reach -/
def p_whole_to : Fn := ⟨2, 3, (.seq (.asg 2 (.call 13 (.cons (.var 0) (.cons (.var 1) .nil))))
    (.ret (.ite (.cmp .isN (.var 2) (.const .none)) (.call 2 (.cons (.var 0) (.cons (.var 1) .nil))) (.bin .add (.call 1 (.cons (.var 0) (.cons (.var 1) .nil))) (.var 2)))))⟩
/-- slots: 0 coefficients, 1 one, 2 ahead, 3 found, 4 size, 5 own -/
def b_exact_from_1 : S := (.seq (.ite (.and (.cmp .gt (.var 4) (.var 1)) (.cmp .eq (.var 2) (.const (.int 0))))
    (.ret (.const .none))
    .skip)
    (.seq (.ite (.cmp .gt (.var 4) (.var 1))
    (.asg 3 (.bcall .max2 (.cons (.var 3) (.cons (.neg (.bin .fdiv (.bin .sub (.var 1) (.var 4)) (.var 2))) .nil))))
    .skip)
    (.aug 2 .add (.var 4))))
def p_exact_from : Fn := ⟨1, 6, (.seq (.par [1, 2, 3] (.cons (.call 3 (.cons (.var 0) .nil)) (.cons (.const (.int 0)) (.cons (.const (.int 1)) .nil))))
    (.seq (.for_ (.name 4) (.bcall .sorted (.cons (.comp (.bcall .abs (.cons (.var 5) .nil)) (.name 5) (.var 0) (.const (.bool true))) .nil)) b_exact_from_1)
    (.ret (.var 3))))⟩
/-- slots: 0 coefficients, 1 place -/
def p_check_counter : Fn := ⟨2, 2, (.ite (.not (.chain .le .lt (.const (.int 0)) (.var 1) (.lenv 0)))
    .fail
    .skip)⟩
/-- slots: 0 some, 1 place, 2 own -/
def p_left_out : Fn := ⟨2, 3, (.seq (.asg 2 (.call 0 (.cons (.var 0) .nil)))
    (.ret (.bin .add (.slice (.var 2) .nil (.var 1)) (.slice (.var 2) (.bin .add (.var 1) (.const (.int 1))) .nil))))⟩
/-- slots: 0 coefficients, 1 bounds, 2 places, 3 place -/
def p_idle_counters : Fn := ⟨2, 4, (.seq (.asg 2 (.list (.range (.cons (.lenv 0) .nil))))
    (.ret (.tuple (.comp (.var 3) (.name 3) (.var 2) (.call 14 (.cons (.call 22 (.cons (.var 0) (.cons (.var 3) .nil))) (.cons (.call 22 (.cons (.var 1) (.cons (.var 3) .nil))) .nil)))))))⟩
/-- slots: 0 coefficients, 1 own -/
def p_sizes_of : Fn := ⟨1, 2, (.ret (.bcall .sortedset (.cons (.comp (.bcall .abs (.cons (.var 1) .nil)) (.name 1) (.var 0) (.const (.bool true))) .nil)))⟩
/-- slots: 0 sizes, 1 size, 2 least, 3 last, 4 fresh, 5 here, 6 own, 7 later -/
def b_classes_by_1 : S := (.seq (.asg 7 (.bin .add (.var 5) (.var 6)))
    (.ite (.cmp .lt (.var 7) (.getv 2 (.cons (.bin .mod (.var 7) (.var 1)) (.cons (.bin .add (.var 7) (.const (.int 1))) .nil))))
    (.seq (.seti2 2 (.bin .mod (.var 7) (.var 1)) 3 (.bin .mod (.var 7) (.var 1)) (.tup (.cons (.var 7) (.cons (.var 6) .nil))))
    (.app 4 (.var 7)))
    .skip))
def b_classes_by_2 : S := (.seq (.asg 5 (.popv 4 (.cons (.const (.int 0)) .nil)))
    (.for_ (.name 6) (.ite (.cmp .eq (.idxv 2 (.bin .mod (.var 5) (.var 1))) (.var 5)) (.var 0) (.lst .nil)) b_classes_by_1))
def p_classes_by : Fn := ⟨2, 8, (.seq (.par [2, 3, 4] (.cons (.dict (.cons (.const (.int 0)) (.cons (.const (.int 0)) .nil))) (.cons (.dict .nil) (.cons (.lst (.cons (.const (.int 0)) .nil)) .nil))))
    (.seq (.while_ (.cmp .gt (.lenv 4) (.const (.int 0))) b_classes_by_2)
    (.ret (.tup (.cons (.var 2) (.cons (.var 3) .nil))))))⟩
/-- slots: 0 coefficients, 1 sizes -/
def p_least_heaps : Fn := ⟨1, 2, (.seq (.asg 1 (.call 24 (.cons (.var 0) .nil)))
    (.ret (.ite (.cmp .gt (.lenv 1) (.const (.int 0))) (.idx (.call 25 (.cons (.var 1) (.cons (.idxv 1 (.const (.int 0))) .nil))) (.const (.int 0))) (.dict .nil))))⟩
/-- slots: 0 least, 1 size, 2 number -/
def p_is_above : Fn := ⟨3, 3, (.ret (.and (.inv false (.bin .mod (.var 2) (.var 1)) 0) (.cmp .ge (.var 2) (.idxv 0 (.bin .mod (.var 2) (.var 1))))))⟩
/-- slots: 0 coefficients, 1 found, 2 rest, 3 own -/
def b_gaps_1 : S := (.ext 1 (.list (.range (.cons (.var 2) (.cons (.var 3) (.cons (.idx (.call 24 (.cons (.var 0) .nil)) (.const (.int 0))) .nil))))))
def p_gaps : Fn := ⟨1, 4, (.seq (.asg 1 (.lst .nil))
    (.seq (.for_ (.tup (.cons (.name 2) (.cons (.name 3) .nil))) (.items (.call 26 (.cons (.var 0) .nil))) b_gaps_1)
    (.ret (.bcall .sorted (.cons (.var 1) .nil)))))⟩
/-- slots: 0 coefficients, 1 bounds, 2 low, 3 high -/
def p_let_numbers : Fn := ⟨2, 4, (.seq (.par [2, 3] (.cons (.call 1 (.cons (.var 0) (.cons (.var 1) .nil))) (.cons (.call 2 (.cons (.var 0) (.cons (.var 1) .nil))) .nil)))
    (.ret (.list (.range (.cons (.var 2) (.cons (.bin .add (.var 3) (.const (.int 1))) (.cons (.bcall .max2 (.cons (.const (.int 1)) (.cons (.call 3 (.cons (.var 0) .nil)) .nil))) .nil)))))))⟩
/-- slots: 0 coefficients, 1 bounds, 2 made, 3 own -/
def p_holes : Fn := ⟨2, 4, (.seq (.asg 2 (.bcall .set (.cons (.call 8 (.cons (.var 0) (.cons (.var 1) .nil))) .nil)))
    (.ret (.comp (.var 3) (.name 3) (.call 29 (.cons (.var 0) (.cons (.var 1) .nil))) (.inv true (.var 3) 2))))⟩
/-- slots: 0 coefficients, 1 bounds -/
def p_how_many_holes : Fn := ⟨2, 2, (.ret (.bcall .len (.cons (.call 30 (.cons (.var 0) (.cons (.var 1) .nil))) .nil)))⟩
/-- slots: 0 coefficients, 1 bounds, 2 some, 3 low, 4 high, 5 own -/
def p_end_gaps : Fn := ⟨2, 6, (.seq (.par [2, 3, 4] (.cons (.call 28 (.cons (.var 0) .nil)) (.cons (.call 1 (.cons (.var 0) (.cons (.var 1) .nil))) (.cons (.call 2 (.cons (.var 0) (.cons (.var 1) .nil))) .nil))))
    (.ret (.tup (.cons (.bcall .dict (.cons (.comp (.tup (.cons (.bin .add (.var 3) (.var 5)) (.cons (.const (.bool true)) .nil))) (.name 5) (.var 2) (.const (.bool true))) .nil)) (.cons (.bcall .dict (.cons (.comp (.tup (.cons (.bin .sub (.var 4) (.var 5)) (.cons (.const (.bool true)) .nil))) (.name 5) (.var 2) (.const (.bool true))) .nil)) .nil)))))⟩
/-- slots: 0 coefficients, 1 bounds, 2 near, 3 far, 4 own -/
def p_parting_holes : Fn := ⟨2, 5, (.seq (.asgT (.tup (.cons (.name 2) (.cons (.name 3) .nil))) (.call 32 (.cons (.var 0) (.cons (.var 1) .nil))))
    (.ret (.comp (.var 4) (.name 4) (.call 30 (.cons (.var 0) (.cons (.var 1) .nil))) (.and (.inv true (.var 4) 2) (.inv true (.var 4) 3)))))⟩
/-- slots: 0 coefficients, 1 bounds -/
def p_is_settled : Fn := ⟨2, 2, (.ret (.cmp .eq (.bcall .len (.cons (.call 33 (.cons (.var 0) (.cons (.var 1) .nil))) .nil)) (.const (.int 0))))⟩
/-- slots: 0 coefficients, 1 bounds, 2 near, 3 far, 4 low, 5 high, 6 own -/
def p_facts_of : Fn := ⟨2, 7, (.seq (.asgT (.tup (.cons (.name 2) (.cons (.name 3) .nil))) (.call 32 (.cons (.var 0) (.cons (.var 1) .nil))))
    (.seq (.par [4, 5] (.cons (.call 1 (.cons (.var 0) (.cons (.var 1) .nil))) (.cons (.call 2 (.cons (.var 0) (.cons (.var 1) .nil))) .nil)))
    (.ret (.dict (.cons (.const (.str "step")) (.cons (.call 3 (.cons (.var 0) .nil)) (.cons (.const (.str "low")) (.cons (.var 4) (.cons (.const (.str "high")) (.cons (.var 5) (.cons (.const (.str "reach")) (.cons (.bin .sub (.call 18 (.cons (.var 0) (.cons (.var 1) .nil))) (.var 4)) (.cons (.const (.str "holes")) (.cons (.tup (.cons (.call 16 (.cons (.var 0) (.cons (.var 1) .nil))) (.cons (.call 17 (.cons (.var 0) (.cons (.var 1) .nil))) .nil))) (.cons (.const (.str "gone")) (.cons (.bcall .dict (.cons (.comp (.tup (.cons (.var 6) (.cons (.const (.bool true)) .nil))) (.name 6) (.lst (.scons (.var 2) (.scons (.var 3) .nil))) (.const (.bool true))) .nil)) (.cons (.const (.str "settled")) (.cons (.call 34 (.cons (.var 0) (.cons (.var 1) .nil))) (.cons (.const (.str "sums")) (.cons (.bcall .dict (.cons (.comp (.tup (.cons (.var 6) (.cons (.const (.bool true)) .nil))) (.name 6) (.call 8 (.cons (.var 0) (.cons (.var 1) .nil))) (.const (.bool true))) .nil)) .nil))))))))))))))))))))⟩
/-- slots: 0 facts, 1 number, 2 test -/
def p_word_of : Fn := ⟨3, 3, (.seq (.ite (.cmp .eq (.var 2) (.const (.str "divisor")))
    (.ret (.ite (.call 4 (.cons (.idxv 0 (.const (.str "step"))) (.cons (.var 1) .nil))) (.const .none) (.const (.str "no"))))
    .skip)
    (.seq (.ite (.cmp .eq (.var 2) (.const (.str "range")))
    (.ret (.ite (.chain .le .le (.idxv 0 (.const (.str "low"))) (.var 1) (.idxv 0 (.const (.str "high")))) (.const .none) (.const (.str "no"))))
    .skip)
    (.seq (.ite (.cmp .eq (.var 2) (.const (.str "heaps")))
    (.ret (.ite (.cmp .in_ (.var 1) (.idxv 0 (.const (.str "gone")))) (.const (.str "no")) (.const .none)))
    .skip)
    (.seq (.ite (.cmp .eq (.var 2) (.const (.str "walk")))
    (.ret (.ite (.cmp .in_ (.var 1) (.idxv 0 (.const (.str "sums")))) (.const (.str "yes")) (.const (.str "no"))))
    .skip)
    (.seq (.ite (.or (.not (.call 4 (.cons (.idxv 0 (.const (.str "step"))) (.cons (.var 1) .nil)))) (.not (.chain .le .le (.idxv 0 (.const (.str "low"))) (.var 1) (.idxv 0 (.const (.str "high"))))))
    (.ret (.const .none))
    .skip)
    (.seq (.ite (.cmp .eq (.var 2) (.const (.str "settled")))
    (.ret (.ite (.and (.idxv 0 (.const (.str "settled"))) (.cmp .notin (.var 1) (.idxv 0 (.const (.str "gone"))))) (.const (.str "yes")) (.const .none)))
    .skip)
    (.seq (.ite (.cmp .le (.bcall .min2 (.cons (.bin .sub (.var 1) (.idxv 0 (.const (.str "low")))) (.cons (.bin .sub (.idxv 0 (.const (.str "high"))) (.var 1)) .nil))) (.idxv 0 (.const (.str "reach"))))
    (.ret (.const (.str "yes")))
    .skip)
    (.ret (.ite (.cmp .in_ (.var 1) (.idxv 0 (.const (.str "holes")))) (.const (.str "no")) (.const .none))))))))))⟩
/-- slots: 0 facts, 1 number, 2 words, 3 test, 4 own -/
def p_first_word : Fn := ⟨2, 5, (.seq (.asg 2 (.comp (.tup (.cons (.var 3) (.cons (.call 36 (.cons (.var 0) (.cons (.var 1) (.cons (.var 3) .nil)))) .nil))) (.name 3) (.const (.tup [(.str "divisor"), (.str "range"), (.str "chain"), (.str "heaps"), (.str "settled"), (.str "walk")])) (.const (.bool true))))
    (.ret (.idx (.comp (.var 4) (.name 4) (.var 2) (.cmp .notN (.idxv 4 (.const (.int 1))) (.const .none))) (.const (.int 0)))))⟩
/-- slots: 0 coefficients, 1 bounds, 2 number -/
def p_verdict : Fn := ⟨3, 3, (.ret (.call 37 (.cons (.call 35 (.cons (.var 0) (.cons (.var 1) .nil))) (.cons (.var 2) .nil))))⟩
/-- slots: 0 coefficients, 1 least, 2 number, 3 own -/
def p_word_for : Fn := ⟨3, 4, (.seq (.ite (.not (.call 4 (.cons (.call 3 (.cons (.var 0) .nil)) (.cons (.var 2) .nil))))
    (.ret (.const (.str "step")))
    .skip)
    (.seq (.ite (.or (.cmp .eq (.var 2) (.const (.int 0))) (.cmp .gt (.bcall .lenset (.cons (.comp (.cmp .gt (.var 3) (.const (.int 0))) (.name 3) (.var 0) (.const (.bool true))) .nil)) (.const (.int 1))))
    (.ret (.const .none))
    .skip)
    (.seq (.ite (.cmp .ne (.cmp .gt (.var 2) (.const (.int 0))) (.cmp .gt (.idxv 0 (.const (.int 0))) (.const (.int 0))))
    (.ret (.const (.str "sign")))
    .skip)
    (.ret (.ite (.call 27 (.cons (.var 1) (.cons (.idx (.call 24 (.cons (.var 0) .nil)) (.const (.int 0))) (.cons (.bcall .abs (.cons (.var 2) .nil)) .nil)))) (.const .none) (.const (.str "gap")))))))⟩
/-- slots: 0 coefficients, 1 bounds, 2 least, 3 hole -/
def p_lasting_holes : Fn := ⟨2, 4, (.seq (.asg 2 (.call 26 (.cons (.var 0) .nil)))
    (.ret (.comp (.var 3) (.name 3) (.call 30 (.cons (.var 0) (.cons (.var 1) .nil))) (.cmp .notN (.call 39 (.cons (.var 0) (.cons (.var 2) (.cons (.var 3) .nil)))) (.const .none)))))⟩
/-- slots: 0 coefficients, 1 bounds, 2 least, 3 hole -/
def p_passing_holes : Fn := ⟨2, 4, (.seq (.asg 2 (.call 26 (.cons (.var 0) .nil)))
    (.ret (.comp (.var 3) (.name 3) (.call 30 (.cons (.var 0) (.cons (.var 1) .nil))) (.cmp .isN (.call 39 (.cons (.var 0) (.cons (.var 2) (.cons (.var 3) .nil)))) (.const .none)))))⟩
/-- slots: 0 tin, 1 below_so, 2 drawn_so, 3 once_so, 4 wide_so, 5 twice_so -/
def p_law_take : Fn := ⟨2, 6, (.seq (.ite (.cmp .gt (.idxv 0 (.const (.int 0))) (.const (.int 0)))
    (.seq (.asg 2 (.bin .mod (.bcall .int (.cons (.idxv 0 (.const (.int 0))) .nil)) (.var 1)))
    (.seq (.seti 0 (.const (.int 0)) (.bin .fdiv (.idxv 0 (.const (.int 0))) (.var 1)))
    (.ret (.var 2))))
    .skip)
    (.seq (.seti 0 (.const (.int 2)) (.bin .add (.idxv 0 (.const (.int 2))) (.const (.int 1))))
    (.seq (.asg 3 (.bin .mod (.bcall .int (.cons (.bin .mul (.bin .add (.idxv 0 (.const (.int 1))) (.bin .mul (.const (.int 48271)) (.idxv 0 (.const (.int 2))))) (.bin .add (.const (.int 39373)) (.idxv 0 (.const (.int 2))))) .nil)) (.const (.int 2147483647))))
    (.seq (.asg 4 (.bin .add (.bin .mod (.bcall .int (.cons (.var 3) .nil)) (.const (.int 40009))) (.const (.int 7))))
    (.seq (.asg 5 (.bin .mod (.bcall .int (.cons (.bin .mul (.bin .add (.bin .add (.var 3) (.idxv 0 (.const (.int 2)))) (.bin .fdiv (.idxv 0 (.const (.int 1))) (.const (.int 1000003)))) (.var 4)) .nil)) (.const (.int 2147483629))))
    (.ret (.bin .mod (.bcall .int (.cons (.bin .fdiv (.bin .mod (.bcall .int (.cons (.bin .add (.bin .mul (.var 5) (.const (.int 48271))) (.var 3)) .nil)) (.const (.int 2147483587))) (.const (.int 64))) .nil)) (.var 1))))))))⟩
/-- slots: 0 script, 1 most_so, 2 cells_so, 3 k, 4 bit_so, 5 at_so -/
def b_law_cells_1 : S := (.seq (.asg 5 (.bin .mod (.bcall .int (.cons (.var 3) .nil)) (.var 1)))
    (.seti 2 (.var 5) (.bin .add (.idxv 2 (.var 5)) (.bin .mul (.var 4) (.bin .add (.var 3) (.const (.int 2)))))))
def p_law_cells : Fn := ⟨2, 6, (.seq (.asg 2 (.orV (.list (.slice (.var 0) .nil (.var 1))) (.lst (.cons (.const (.int 0)) .nil))))
    (.seq (.for_ (.tup (.cons (.name 3) (.cons (.name 4) .nil))) (.enum (.slice (.var 0) (.var 1) (.const (.int 63)))) b_law_cells_1)
    (.ret (.var 2))))⟩
/-- slots: 0 tin, 1 goods_so, 2 count_so, 3 pool_so, 4 found, 5 lap -/
def b_law_pick_1 : S := (.app 4 (.popv 3 (.cons (.callio 43 0 (.cons (.lenv 3) .nil)) .nil)))
def p_law_pick : Fn := ⟨3, 6, (.seq (.par [3, 4] (.cons (.list (.var 1)) (.cons (.lst .nil) .nil)))
    (.seq (.for_ (.name 5) (.range (.cons (.bcall .min2 (.cons (.bcall .int (.cons (.var 2) .nil)) (.cons (.lenv 3) .nil))) .nil)) b_law_pick_1)
    (.ret (.var 4))))⟩
/-- slots: 0 got, 1 due, 2 mine, 3 its -/
def p_law_same : Fn := ⟨2, 4, (.seq (.ite (.isi (.var 1) [.list, .tuple])
    (.seq (.ite (.or (.cmp .ne (.isi (.var 0) [.list]) (.isi (.var 1) [.list])) (.cmp .ne (.isi (.var 0) [.tuple]) (.isi (.var 1) [.tuple])))
    (.ret (.const (.bool false)))
    .skip)
    (.ret (.and (.cmp .eq (.lenv 0) (.lenv 1)) (.bcall .all (.cons (.comp (.call 46 (.cons (.var 2) (.cons (.var 3) .nil))) (.tup (.cons (.name 2) (.cons (.name 3) .nil))) (.zip (.cons (.var 0) (.cons (.var 1) .nil))) (.const (.bool true))) .nil)))))
    .skip)
    (.seq (.ite (.cmp .isN (.var 1) (.const .none))
    (.ret (.cmp .isN (.var 0) (.const .none)))
    .skip)
    (.seq (.ite (.isi (.var 1) [.bool, .str])
    (.ret (.and (.cmp .eq (.isi (.var 0) [.bool]) (.isi (.var 1) [.bool])) (.and (.cmp .eq (.isi (.var 0) [.str]) (.isi (.var 1) [.str])) (.cmp .eq (.var 0) (.var 1)))))
    .skip)
    (.ret (.and (.isi (.var 0) [.int]) (.and (.not (.isi (.var 0) [.bool])) (.cmp .eq (.var 0) (.var 1))))))))⟩
/-- slots: 0 rows_so, 1 found, 2 own, 3 a, 4 b, 5 lap -/
def b_law_common_1 : S := (.seq (.ite (.cmp .eq (.var 4) (.const (.int 0)))
    .brk
    .skip)
    (.par [3, 4] (.cons (.var 4) (.cons (.bin .mod (.var 3) (.var 4)) .nil))))
def b_law_common_2 : S := (.seq (.par [3, 4] (.cons (.var 1) (.cons (.bcall .abs (.cons (.var 2) .nil)) .nil)))
    (.seq (.for_ (.name 5) (.range (.cons (.const (.int 200)) .nil)) b_law_common_1)
    (.asg 1 (.var 3))))
def p_law_common : Fn := ⟨1, 6, (.seq (.asg 1 (.const (.int 0)))
    (.seq (.for_ (.name 2) (.var 0) b_law_common_2)
    (.ret (.var 1))))⟩
/-- slots: 0 row_so, 1 own, 2 k -/
def b_law_from_1 : S := (.ite (.cmp .eq (.comp (.var 2) (.name 2) (.range (.cons (.const (.int 1)) (.cons (.lenv 0) .nil))) (.cmp .gt (.idxv 0 (.var 2)) (.bin .add (.bin .mul (.var 1) (.bcall .sum (.cons (.slice (.var 0) .nil (.var 2)) .nil))) (.const (.int 1))))) (.lst .nil))
    (.ret (.var 1))
    .skip)
def p_law_from : Fn := ⟨1, 3, (.seq (.for_ (.name 1) (.range (.cons (.const (.int 1)) (.cons (.const (.int 400)) .nil))) b_law_from_1)
    (.ret (.const .none)))⟩
/-- slots: 0 coefficients, 1 counters, 2 own, 3 many -/
def p_sum_of : Fn := ⟨2, 4, (.ret (.bcall .sum (.cons (.comp (.bin .mul (.var 2) (.var 3)) (.tup (.cons (.name 2) (.cons (.name 3) .nil))) (.zip (.cons (.var 0) (.cons (.var 1) .nil))) (.const (.bool true))) .nil)))⟩
/-- slots: 0 coefficients, 1 bounds, 2 number -/
def p_mirrored : Fn := ⟨3, 3, (.ret (.bin .sub (.bin .add (.call 1 (.cons (.var 0) (.cons (.var 1) .nil))) (.call 2 (.cons (.var 0) (.cons (.var 1) .nil)))) (.var 2)))⟩
/-- slots: 0 coefficients, 1 bounds, 2 number, 3 one, 4 rest, 5 own -/
def p_made_plain : Fn := ⟨3, 6, (.seq (.asg 3 (.call 3 (.cons (.var 0) .nil)))
    (.seq (.ite (.not (.call 4 (.cons (.var 3) (.cons (.var 2) .nil))))
    (.ret (.const .none))
    .skip)
    (.seq (.asg 4 (.ite (.cmp .eq (.var 3) (.const (.int 0))) (.const (.int 0)) (.bin .fdiv (.bin .sub (.var 2) (.call 1 (.cons (.var 0) (.cons (.var 1) .nil)))) (.var 3))))
    (.ret (.tup (.cons (.tuple (.comp (.bin .fdiv (.bcall .abs (.cons (.var 5) .nil)) (.var 3)) (.name 5) (.var 0) (.const (.bool true)))) (.cons (.call 0 (.cons (.var 1) .nil)) (.cons (.var 4) .nil))))))))⟩
/-- slots: 0 loops, 1 found, 2 name, 3 most -/
def b_how_many_rounds_1 : S := (.asg 1 (.bin .mul (.var 1) (.bin .add (.var 3) (.const (.int 1)))))
def p_how_many_rounds : Fn := ⟨1, 4, (.seq (.asg 1 (.const (.int 1)))
    (.seq (.for_ (.tup (.cons (.name 2) (.cons (.name 3) .nil))) (.var 0) b_how_many_rounds_1)
    (.ret (.var 1))))⟩
/-- slots: 0 place, 1 counters -/
def p_cell_at : Fn := ⟨2, 2, (.ret (.bin .add (.call 52 (.cons (.idxv 0 (.const (.int 0))) (.cons (.var 1) .nil))) (.idxv 0 (.const (.int 1)))))⟩
/-- slots: 0 loops, 1 one, 2 other, 3 near, 4 own, 5 name, 6 most -/
def p_all_rows : Fn := ⟨3, 7, (.seq (.asg 3 (.comp (.tup (.cons (.var 4) (.cons (.var 6) .nil))) (.tup (.cons (.name 4) (.cons (.tup (.cons (.name 5) (.cons (.name 6) .nil))) .nil))) (.zip (.cons (.idxv 1 (.const (.int 0))) (.cons (.var 0) .nil))) (.const (.bool true))))
    (.ret (.bin .add (.var 3) (.comp (.tup (.cons (.neg (.var 4)) (.cons (.var 6) .nil))) (.tup (.cons (.name 4) (.cons (.tup (.cons (.name 5) (.cons (.name 6) .nil))) .nil))) (.zip (.cons (.idxv 2 (.const (.int 0))) (.cons (.var 0) .nil))) (.const (.bool true))))))⟩
/-- slots: 0 loops, 1 one, 2 other, 3 rows, 4 own, 5 most -/
def p_equation_of : Fn := ⟨3, 6, (.seq (.asg 3 (.comp (.tup (.cons (.var 4) (.cons (.var 5) .nil))) (.tup (.cons (.name 4) (.cons (.name 5) .nil))) (.call 57 (.cons (.var 0) (.cons (.var 1) (.cons (.var 2) .nil)))) (.cmp .ne (.var 4) (.const (.int 0)))))
    (.ret (.tup (.cons (.tuple (.comp (.var 4) (.tup (.cons (.name 4) (.cons (.name 5) .nil))) (.var 3) (.const (.bool true)))) (.cons (.tuple (.comp (.var 5) (.tup (.cons (.name 4) (.cons (.name 5) .nil))) (.var 3) (.const (.bool true)))) (.cons (.bin .sub (.idxv 2 (.const (.int 1))) (.idxv 1 (.const (.int 1)))) .nil))))))⟩
/-- slots: 0 loops, 1 one, 2 other, 3 coefficients, 4 bounds, 5 number -/
def p_touch : Fn := ⟨3, 6, (.seq (.asgT (.tup (.cons (.name 3) (.cons (.name 4) (.cons (.name 5) .nil)))) (.call 58 (.cons (.var 0) (.cons (.var 1) (.cons (.var 2) .nil)))))
    (.ret (.call 7 (.cons (.var 3) (.cons (.var 4) (.cons (.var 5) .nil))))))⟩
/-- slots: 0 loops, 1 one, 2 other, 3 coefficients, 4 bounds, 5 number, 6 some, 7 left, 8 found, 9 own, 10 most -/
def b_touching_1 : S := (.app 8 (.ite (.cmp .ne (.var 9) (.const (.int 0))) (.popv 7 (.cons (.const (.int 0)) .nil)) (.const (.int 0))))
def p_touching : Fn := ⟨3, 11, (.seq (.asgT (.tup (.cons (.name 3) (.cons (.name 4) (.cons (.name 5) .nil)))) (.call 58 (.cons (.var 0) (.cons (.var 1) (.cons (.var 2) .nil)))))
    (.seq (.asg 6 (.call 9 (.cons (.var 3) (.cons (.var 4) (.cons (.var 5) .nil)))))
    (.seq (.ite (.cmp .isN (.var 6) (.const .none))
    (.ret (.const .none))
    .skip)
    (.seq (.par [7, 8] (.cons (.list (.var 6)) (.cons (.lst .nil) .nil)))
    (.seq (.for_ (.tup (.cons (.name 9) (.cons (.name 10) .nil))) (.call 57 (.cons (.var 0) (.cons (.var 1) (.cons (.var 2) .nil)))) b_touching_1)
    (.ret (.tup (.cons (.tuple (.slice (.var 8) .nil (.lenv 0))) (.cons (.tuple (.slice (.var 8) (.lenv 0) .nil)) .nil)))))))))⟩
/-- slots: 0 loops, 1 one, 2 other, 3 coefficients, 4 bounds, 5 number, 6 found, 7 own, 8 most -/
def b_how_many_touchings_1 : S := (.asg 6 (.bin .mul (.var 6) (.ite (.cmp .ne (.var 7) (.const (.int 0))) (.const (.int 1)) (.bin .add (.var 8) (.const (.int 1))))))
def p_how_many_touchings : Fn := ⟨3, 9, (.seq (.asgT (.tup (.cons (.name 3) (.cons (.name 4) (.cons (.name 5) .nil)))) (.call 58 (.cons (.var 0) (.cons (.var 1) (.cons (.var 2) .nil)))))
    (.seq (.asg 6 (.call 10 (.cons (.var 3) (.cons (.var 4) (.cons (.var 5) .nil)))))
    (.seq (.for_ (.tup (.cons (.name 7) (.cons (.name 8) .nil))) (.call 57 (.cons (.var 0) (.cons (.var 1) (.cons (.var 2) .nil)))) b_how_many_touchings_1)
    (.ret (.var 6)))))⟩
/-- slots: 0 loops, 1 place, 2 rows, 3 own, 4 name, 5 most -/
def p_cells_of : Fn := ⟨2, 6, (.seq (.asg 2 (.comp (.tup (.cons (.var 3) (.cons (.var 5) .nil))) (.tup (.cons (.name 3) (.cons (.tup (.cons (.name 4) (.cons (.name 5) .nil))) .nil))) (.zip (.cons (.idxv 1 (.const (.int 0))) (.cons (.var 0) .nil))) (.cmp .ne (.var 3) (.const (.int 0)))))
    (.ret (.comp (.bin .add (.var 3) (.idxv 1 (.const (.int 1)))) (.name 3) (.call 8 (.cons (.comp (.var 3) (.tup (.cons (.name 3) (.cons (.name 5) .nil))) (.var 2) (.const (.bool true))) (.cons (.comp (.var 5) (.tup (.cons (.name 3) (.cons (.name 5) .nil))) (.var 2) (.const (.bool true))) .nil))) (.const (.bool true)))))⟩
/-- slots: 0 one, 1 other -/
def p_check_both : Fn := ⟨2, 2, (.ite (.cmp .ne (.lenv 0) (.lenv 1))
    .fail
    .skip)⟩
/-- slots: 0 spot, 1 counters, 2 place -/
def p_cells_at : Fn := ⟨2, 3, (.ret (.tuple (.comp (.call 56 (.cons (.var 2) (.cons (.var 1) .nil))) (.name 2) (.var 0) (.const (.bool true)))))⟩
/-- slots: 0 loops, 1 one, 2 other, 3 near, 4 far, 5 own -/
def p_shared_cells : Fn := ⟨3, 6, (.seq (.expr (.call 63 (.cons (.var 1) (.cons (.var 2) .nil))))
    (.seq (.par [3, 4] (.cons (.call 66 (.cons (.var 0) (.cons (.var 1) .nil))) (.cons (.call 66 (.cons (.var 0) (.cons (.var 2) .nil))) .nil)))
    (.ret (.bcall .sorted (.cons (.comp (.var 5) (.name 5) (.var 3) (.inv false (.var 5) 4)) .nil)))))⟩
/-- slots: 0 loops, 1 one, 2 other -/
def p_touch_all : Fn := ⟨3, 3, (.ret (.cmp .gt (.bcall .len (.cons (.call 67 (.cons (.var 0) (.cons (.var 1) (.cons (.var 2) .nil)))) .nil)) (.const (.int 0))))⟩
/-- slots: 0 loops, 1 one, 2 other, 3 some, 4 near, 5 far, 6 own -/
def p_how_many_together : Fn := ⟨3, 7, (.seq (.asg 3 (.call 67 (.cons (.var 0) (.cons (.var 1) (.cons (.var 2) .nil)))))
    (.seq (.par [4, 5] (.cons (.call 66 (.cons (.var 0) (.cons (.var 1) .nil))) (.cons (.call 66 (.cons (.var 0) (.cons (.var 2) .nil))) .nil)))
    (.ret (.bcall .sum (.cons (.comp (.bin .mul (.bcall .len (.cons (.idxv 4 (.var 6)) .nil)) (.bcall .len (.cons (.idxv 5 (.var 6)) .nil))) (.name 6) (.var 3) (.const (.bool true))) .nil)))))⟩
/-- slots: 0 loops, 1 one, 2 other, 3 found, 4 near, 5 far, 6 coefficients, 7 bounds, 8 number, 9 ends -/
def b_widest_part_1 : S := (.seq (.asgT (.tup (.cons (.name 6) (.cons (.name 7) (.cons (.name 8) .nil)))) (.call 58 (.cons (.var 0) (.cons (.var 4) (.cons (.var 5) .nil)))))
    (.seq (.asg 9 (.tup (.cons (.bin .sub (.call 1 (.cons (.var 6) (.cons (.var 7) .nil))) (.var 8)) (.cons (.bin .sub (.call 2 (.cons (.var 6) (.cons (.var 7) .nil))) (.var 8)) .nil))))
    (.asg 3 (.bcall .max3 (.cons (.var 3) (.cons (.bcall .abs (.cons (.idxv 9 (.const (.int 0))) .nil)) (.cons (.bcall .abs (.cons (.idxv 9 (.const (.int 1))) .nil)) .nil)))))))
def p_widest_part : Fn := ⟨3, 10, (.seq (.asg 3 (.const (.int 0)))
    (.seq (.for_ (.tup (.cons (.name 4) (.cons (.name 5) .nil))) (.zip (.cons (.var 1) (.cons (.var 2) .nil))) b_widest_part_1)
    (.ret (.var 3))))⟩
/-- slots: 0 loops, 1 spot, 2 base, 3 row, 4 alone, 5 weight, 6 numbers, 7 number, 8 own, 9 more -/
def b_folded_1 : S := (.seq (.asg 3 (.comp (.bin .add (.var 8) (.bin .mul (.var 5) (.var 9))) (.tup (.cons (.name 8) (.cons (.name 9) .nil))) (.zip (.cons (.var 3) (.cons (.var 6) .nil))) (.const (.bool true))))
    (.par [4, 5] (.cons (.bin .add (.var 4) (.bin .mul (.var 5) (.var 7))) (.cons (.bin .mul (.var 5) (.var 2)) .nil))))
def p_folded : Fn := ⟨3, 10, (.seq (.par [3, 4, 5] (.cons (.bin .mul (.lst (.cons (.const (.int 0)) .nil)) (.lenv 0)) (.cons (.const (.int 0)) (.cons (.const (.int 1)) .nil))))
    (.seq (.for_ (.tup (.cons (.name 6) (.cons (.name 7) .nil))) (.var 1) b_folded_1)
    (.ret (.tup (.cons (.tuple (.var 3)) (.cons (.var 4) .nil))))))⟩
/-- slots: 0 loops, 1 one, 2 other, 3 base -/
def p_flattened : Fn := ⟨3, 4, (.seq (.expr (.call 63 (.cons (.var 1) (.cons (.var 2) .nil))))
    (.seq (.asg 3 (.bin .add (.bin .mul (.const (.int 2)) (.call 70 (.cons (.var 0) (.cons (.var 1) (.cons (.var 2) .nil))))) (.const (.int 1))))
    (.ret (.tup (.cons (.call 71 (.cons (.var 0) (.cons (.var 1) (.cons (.var 3) .nil)))) (.cons (.call 71 (.cons (.var 0) (.cons (.var 2) (.cons (.var 3) .nil)))) .nil))))))⟩
/-- slots: 0 loops_so, 1 one_so, 2 other_so, 3 found, 4 place_so, 5 own, 6 loop_so -/
def b_law_free_1 : S := (.ite (.cmp .eq (.var 5) (.const (.int 0)))
    (.asg 3 (.bin .mul (.var 3) (.bin .add (.idxv 6 (.const (.int 1))) (.const (.int 1)))))
    .skip)
def b_law_free_2 : S := (.for_ (.tup (.cons (.name 5) (.cons (.name 6) .nil))) (.zip (.cons (.idxv 4 (.const (.int 0))) (.cons (.var 0) .nil))) b_law_free_1)
def p_law_free : Fn := ⟨3, 7, (.seq (.asg 3 (.const (.int 1)))
    (.seq (.for_ (.name 4) (.tup (.cons (.var 1) (.cons (.var 2) .nil))) b_law_free_2)
    (.ret (.var 3))))⟩
/-- slots: 0 loops_so, 1 one_so, 2 other_so, 3 coefs_so, 4 bounds_so, 5 goal_so, 6 here_so, 7 there_so, 8 both_so, 9 due_so, 10 plain_so, 11 got, 12 many_so, 13 told, 14 near_so, 15 far_so, 16 pair_so, 17 own -/
def p_law_case_right : Fn := ⟨3, 18, (.seq (.asgT (.tup (.cons (.name 3) (.cons (.name 4) (.cons (.name 5) .nil)))) (.call 58 (.cons (.var 0) (.cons (.var 1) (.cons (.var 2) .nil)))))
    (.seq (.par [6, 7] (.cons (.call 62 (.cons (.var 0) (.cons (.var 1) .nil))) (.cons (.call 62 (.cons (.var 0) (.cons (.var 2) .nil))) .nil)))
    (.seq (.asg 8 (.comp (.var 17) (.name 17) (.var 6) (.inv false (.var 17) 7)))
    (.seq (.par [9, 10] (.cons (.cmp .ne (.var 8) (.lst .nil)) (.cons (.call 54 (.cons (.var 3) (.cons (.var 4) (.cons (.var 5) .nil)))) .nil)))
    (.seq (.asg 11 (.lst (.cons (.call 59 (.cons (.var 0) (.cons (.var 1) (.cons (.var 2) .nil)))) (.cons (.call 7 (.cons (.var 3) (.cons (.var 4) (.cons (.var 5) .nil)))) .nil))))
    (.seq (.asg 11 (.bin .add (.var 11) (.lst (.cons (.call 7 (.cons (.var 3) (.cons (.var 4) (.cons (.call 53 (.cons (.var 3) (.cons (.var 4) (.cons (.var 5) .nil)))) .nil)))) .nil))))
    (.seq (.app 11 (.and (.cmp .notN (.var 10) (.const .none)) (.call 7 (.cons (.idxv 10 (.const (.int 0))) (.cons (.idxv 10 (.const (.int 1))) (.cons (.idxv 10 (.const (.int 2))) .nil))))))
    (.seq (.asg 11 (.bin .add (.var 11) (.lst (.cons (.cmp .eq (.idx (.call 38 (.cons (.var 3) (.cons (.var 4) (.cons (.var 5) .nil)))) (.const (.int 1))) (.const (.str "yes"))) (.cons (.call 59 (.cons (.var 0) (.cons (.var 2) (.cons (.var 1) .nil)))) .nil)))))
    (.seq (.app 11 (.call 68 (.cons (.var 0) (.cons (.tup (.cons (.var 1) (.cons (.var 1) .nil))) (.cons (.tup (.cons (.var 2) (.cons (.var 2) .nil))) .nil)))))
    (.seq (.app 11 (.cmp .notN (.call 60 (.cons (.var 0) (.cons (.var 1) (.cons (.var 2) .nil)))) (.const .none)))
    (.seq (.ite (.not (.call 46 (.cons (.var 11) (.cons (.bin .mul (.lst (.cons (.var 9) .nil)) (.const (.int 8))) .nil))))
    (.ret (.const (.bool false)))
    .skip)
    (.seq (.ite (.not (.call 46 (.cons (.call 67 (.cons (.var 0) (.cons (.tup (.cons (.var 1) .nil)) (.cons (.tup (.cons (.var 2) .nil)) .nil)))) (.cons (.comp (.tup (.cons (.var 17) .nil)) (.name 17) (.var 8) (.const (.bool true))) .nil))))
    (.ret (.const (.bool false)))
    .skip)
    (.seq (.asg 12 (.bin .mul (.call 10 (.cons (.var 3) (.cons (.var 4) (.cons (.var 5) .nil)))) (.call 73 (.cons (.var 0) (.cons (.var 1) (.cons (.var 2) .nil))))))
    (.seq (.asg 11 (.lst (.cons (.call 61 (.cons (.var 0) (.cons (.var 1) (.cons (.var 2) .nil)))) (.cons (.call 69 (.cons (.var 0) (.cons (.tup (.cons (.var 1) .nil)) (.cons (.tup (.cons (.var 2) .nil)) .nil)))) .nil))))
    (.seq (.ite (.or (.not (.call 46 (.cons (.var 11) (.cons (.lst (.cons (.var 12) (.cons (.var 12) .nil))) .nil)))) (.cmp .gt (.var 12) (.bin .pow (.call 55 (.cons (.var 0) .nil)) (.const (.int 2)))))
    (.ret (.const (.bool false)))
    .skip)
    (.seq (.asg 13 (.call 9 (.cons (.var 3) (.cons (.var 4) (.cons (.var 5) .nil)))))
    (.seq (.ite (.and (.var 9) (.not (.call 46 (.cons (.call 52 (.cons (.var 3) (.cons (.var 13) .nil))) (.cons (.var 5) .nil)))))
    (.ret (.const (.bool false)))
    .skip)
    (.seq (.asgT (.tup (.cons (.name 14) (.cons (.name 15) .nil))) (.call 72 (.cons (.var 0) (.cons (.tup (.cons (.var 1) (.cons (.var 2) .nil))) (.cons (.tup (.cons (.var 2) (.cons (.var 1) .nil))) .nil)))))
    (.seq (.asg 16 (.call 68 (.cons (.var 0) (.cons (.tup (.cons (.var 1) (.cons (.var 2) .nil))) (.cons (.tup (.cons (.var 2) (.cons (.var 1) .nil))) .nil)))))
    (.ret (.and (.call 46 (.cons (.call 68 (.cons (.var 0) (.cons (.tup (.cons (.var 14) .nil)) (.cons (.tup (.cons (.var 15) .nil)) .nil)))) (.cons (.var 16) .nil))) (.or (.var 9) (.not (.var 16))))))))))))))))))))))))⟩
/-- slots: 0 loops_so, 1 pair_so, 2 one_so, 3 two_so, 4 got, 5 cases, 6 own -/
def p_law_by_hand_right : Fn := ⟨0, 7, (.seq (.par [0, 1] (.cons (.tup (.cons (.tup (.cons (.const (.str "i")) (.cons (.const (.int 5)) .nil))) (.cons (.tup (.cons (.const (.str "j")) (.cons (.const (.int 3)) .nil))) .nil))) (.cons (.tup (.cons (.tup (.cons (.const (.str "i")) (.cons (.const (.int 1)) .nil))) (.cons (.tup (.cons (.const (.str "j")) (.cons (.const (.int 1)) .nil))) .nil))) .nil)))
    (.seq (.par [2, 3] (.cons (.tup (.cons (.tup (.cons (.const (.int 2)) (.cons (.const (.int 0)) .nil))) (.cons (.const (.int 0)) .nil))) (.cons (.tup (.cons (.tup (.cons (.const (.int 0)) (.cons (.const (.int 3)) .nil))) (.cons (.const (.int 1)) .nil))) .nil)))
    (.seq (.asg 4 (.lst (.cons (.call 59 (.cons (.var 0) (.cons (.var 2) (.cons (.var 3) .nil)))) (.cons (.call 61 (.cons (.var 0) (.cons (.var 2) (.cons (.var 3) .nil)))) .nil))))
    (.seq (.app 4 (.call 59 (.cons (.var 1) (.cons (.var 2) (.cons (.var 3) .nil)))))
    (.seq (.asg 4 (.bin .add (.var 4) (.lst (.cons (.call 54 (.cons (.tup (.cons (.const (.int 2)) (.cons (.neg (.const (.int 3))) .nil))) (.cons (.tup (.cons (.const (.int 1)) (.cons (.const (.int 1)) .nil))) (.cons (.const (.int 1)) .nil)))) (.cons (.call 53 (.cons (.tup (.cons (.const (.int 2)) (.cons (.neg (.const (.int 3))) .nil))) (.cons (.tup (.cons (.const (.int 1)) (.cons (.const (.int 1)) .nil))) (.cons (.const (.int 1)) .nil)))) (.cons (.call 62 (.cons (.var 1) (.cons (.var 2) .nil))) .nil))))))
    (.seq (.ite (.not (.call 46 (.cons (.var 4) (.cons (.lst (.cons (.const (.bool true)) (.cons (.const (.int 48)) (.cons (.const (.bool false)) (.cons (.tup (.cons (.tup (.cons (.const (.int 2)) (.cons (.const (.int 3)) .nil))) (.cons (.tup (.cons (.const (.int 1)) (.cons (.const (.int 1)) .nil))) (.cons (.const (.int 4)) .nil)))) (.cons (.neg (.const (.int 2))) (.cons (.lst (.cons (.const (.int 0)) (.cons (.const (.int 2)) .nil))) .nil))))))) .nil))))
    (.ret (.const (.bool false)))
    .skip)
    (.seq (.asg 5 (.lst (.cons (.tup (.cons (.var 0) (.cons (.var 2) (.cons (.var 3) .nil)))) (.cons (.tup (.cons (.var 1) (.cons (.var 2) (.cons (.var 3) .nil)))) (.cons (.tup (.cons (.var 1) (.cons (.tup (.cons (.tup (.cons (.const (.int 1)) (.cons (.const (.int 1)) .nil))) (.cons (.const (.int 0)) .nil))) (.cons (.tup (.cons (.tup (.cons (.const (.int 1)) (.cons (.const (.int 1)) .nil))) (.cons (.const (.int 1)) .nil))) .nil)))) .nil)))))
    (.seq (.asg 5 (.bin .add (.var 5) (.lst (.cons (.tup (.cons (.tup .nil) (.cons (.tup (.cons (.tup .nil) (.cons (.const (.int 4)) .nil))) (.cons (.tup (.cons (.tup .nil) (.cons (.const (.int 4)) .nil))) .nil)))) (.cons (.tup (.cons (.tup .nil) (.cons (.tup (.cons (.tup .nil) (.cons (.const (.int 4)) .nil))) (.cons (.tup (.cons (.tup .nil) (.cons (.const (.int 5)) .nil))) .nil)))) (.cons (.tup (.cons (.var 1) (.cons (.tup (.cons (.tup (.cons (.const (.int 0)) (.cons (.const (.int 0)) .nil))) (.cons (.const (.int 7)) .nil))) (.cons (.tup (.cons (.tup (.cons (.const (.int 0)) (.cons (.const (.int 0)) .nil))) (.cons (.const (.int 7)) .nil))) .nil)))) .nil))))))
    (.ret (.bcall .all (.cons (.comp (.call 74 (.cons (.idxv 6 (.const (.int 0))) (.cons (.idxv 6 (.const (.int 1))) (.cons (.idxv 6 (.const (.int 2))) .nil)))) (.name 6) (.var 5) (.const (.bool true))) .nil)))))))))))⟩
/-- slots: 0 tin, 1 many_so, 2 k -/
def p_law_place : Fn := ⟨2, 3, (.ret (.tup (.cons (.tuple (.comp (.bin .sub (.callio 43 0 (.cons (.const (.int 13)) .nil)) (.const (.int 6))) (.name 2) (.range (.cons (.var 1) .nil)) (.const (.bool true)))) (.cons (.bin .sub (.callio 43 0 (.cons (.const (.int 21)) .nil)) (.const (.int 10))) .nil))))⟩
/-- slots: 0 coefficients, 1 bounds -/
def p_width : Fn := ⟨2, 2, (.ret (.bin .sub (.call 2 (.cons (.var 0) (.cons (.var 1) .nil))) (.call 1 (.cons (.var 0) (.cons (.var 1) .nil)))))⟩
/-- slots: 0 coefficients, 1 some, 2 edge, 3 own -/
def p_sure_width : Fn := ⟨1, 4, (.seq (.asg 1 (.call 28 (.cons (.var 0) .nil)))
    (.seq (.asg 2 (.ite (.cmp .gt (.lenv 1) (.const (.int 0))) (.idxv 1 (.neg (.const (.int 1)))) (.neg (.call 3 (.cons (.var 0) .nil)))))
    (.ret (.bin .add (.bin .mul (.const (.int 2)) (.var 2)) (.bcall .maxD (.cons (.comp (.bcall .abs (.cons (.var 3) .nil)) (.name 3) (.var 0) (.const (.bool true))) (.cons (.const (.int 0)) .nil)))))))⟩
/-- slots: 0 bounds, 1 place -/
def p_one_more : Fn := ⟨1, 2, (.ret (.comp (.tup (.scons (.slice (.var 0) .nil (.var 1)) (.cons (.bin .add (.idxv 0 (.var 1)) (.const (.int 1))) (.scons (.slice (.var 0) (.bin .add (.var 1) (.const (.int 1))) .nil) .nil)))) (.name 1) (.range (.cons (.lenv 0) .nil)) (.const (.bool true))))⟩
/-- slots: 0 coefficients, 1 bounds, 2 edge, 3 fresh, 4 seen, 5 own -/
def b_unsettled_above_1 : S := (.seq (.asg 5 (.popv 3 .nil))
    (.seq (.ite (.inv false (.var 5) 4)
    .cont
    .skip)
    (.seq (.seti 4 (.var 5) (.const (.bool true)))
    (.seq (.ite (.not (.call 34 (.cons (.var 0) (.cons (.var 5) .nil))))
    (.ret (.var 5))
    .skip)
    (.ite (.cmp .le (.call 77 (.cons (.var 0) (.cons (.var 5) .nil))) (.var 2))
    (.ext 3 (.call 79 (.cons (.var 5) .nil)))
    .skip)))))
def p_unsettled_above : Fn := ⟨2, 6, (.seq (.par [2, 3, 4] (.cons (.call 78 (.cons (.var 0) .nil)) (.cons (.lst (.cons (.call 0 (.cons (.var 1) .nil)) .nil)) (.cons (.dict .nil) .nil))))
    (.seq (.while_ (.cmp .gt (.lenv 3) (.const (.int 0))) b_unsettled_above_1)
    (.ret (.const .none))))⟩
/-- slots: 0 coefficients, 1 bounds -/
def p_stays_settled : Fn := ⟨2, 2, (.ret (.cmp .isN (.call 80 (.cons (.var 0) (.cons (.var 1) .nil))) (.const .none)))⟩
/-- slots: 0 coefficients, 1 number -/
def p_why_never : Fn := ⟨2, 2, (.ret (.call 39 (.cons (.var 0) (.cons (.call 26 (.cons (.var 0) .nil)) (.cons (.var 1) .nil)))))⟩
/-- slots: 0 coefficients, 1 number -/
def p_comes_at_all : Fn := ⟨2, 2, (.ret (.cmp .isN (.call 82 (.cons (.var 0) (.cons (.var 1) .nil))) (.const .none)))⟩
/-- slots: 0 coefficients, 1 most, 2 own -/
def p_alike : Fn := ⟨2, 3, (.ret (.tuple (.comp (.var 1) (.name 2) (.var 0) (.const (.bool true)))))⟩
/-- slots: 0 coefficients, 1 number, 2 low, 3 high, 4 middle -/
def b_comes_from_1 : S := (.par [2, 3] (.cons (.var 3) (.cons (.bin .add (.var 3) (.var 3)) .nil)))
def b_comes_from_2 : S := (.seq (.asg 4 (.bin .fdiv (.bin .add (.var 2) (.var 3)) (.const (.int 2))))
    (.ite (.call 7 (.cons (.var 0) (.cons (.call 84 (.cons (.var 0) (.cons (.var 4) .nil))) (.cons (.var 1) .nil))))
    (.asg 3 (.var 4))
    (.asg 2 (.var 4))))
def p_comes_from : Fn := ⟨2, 5, (.seq (.ite (.not (.call 83 (.cons (.var 0) (.cons (.var 1) .nil))))
    (.ret (.const .none))
    .skip)
    (.seq (.par [2, 3] (.cons (.const (.int 0)) (.cons (.const (.int 1)) .nil)))
    (.seq (.while_ (.not (.call 7 (.cons (.var 0) (.cons (.call 84 (.cons (.var 0) (.cons (.var 3) .nil))) (.cons (.var 1) .nil))))) b_comes_from_1)
    (.seq (.while_ (.cmp .gt (.bin .sub (.var 3) (.var 2)) (.const (.int 1))) b_comes_from_2)
    (.ret (.var 3))))))⟩
/-- slots: 0 coefficients, 1 low, 2 high, 3 least, 4 one, 5 every, 6 number -/
def p_missed_for_ever : Fn := ⟨3, 7, (.seq (.par [3, 4] (.cons (.call 26 (.cons (.var 0) .nil)) (.cons (.call 3 (.cons (.var 0) .nil)) .nil)))
    (.seq (.asg 5 (.comp (.var 6) (.name 6) (.range (.cons (.var 1) (.cons (.bin .add (.var 2) (.const (.int 1))) .nil))) (.call 4 (.cons (.var 4) (.cons (.var 6) .nil)))))
    (.ret (.comp (.var 6) (.name 6) (.var 5) (.cmp .notN (.call 39 (.cons (.var 0) (.cons (.var 3) (.cons (.var 6) .nil)))) (.const .none))))))⟩
/-- slots: 0 tin, 1 goods_so -/
def p_law_of : Fn := ⟨2, 2, (.ret (.idxv 1 (.callio 43 0 (.cons (.lenv 1) .nil))))⟩
/-- slots: 0 box, 1 many_so, 2 high_so, 3 signs_so, 4 found, 5 turn, 6 own -/
def b_law_coefs_1 : S := (.seq (.asg 6 (.bin .add (.const (.int 1)) (.callio 43 0 (.cons (.var 2) .nil))))
    (.app 4 (.ite (.and (.var 3) (.cmp .eq (.callio 43 0 (.cons (.const (.int 2)) .nil)) (.const (.int 1)))) (.neg (.var 6)) (.var 6))))
def p_law_coefs : Fn := ⟨4, 7, (.seq (.asg 4 (.lst .nil))
    (.seq (.for_ (.name 5) (.range (.cons (.bin .add (.const (.int 1)) (.callio 43 0 (.cons (.var 1) .nil))) .nil)) b_law_coefs_1)
    (.ret (.tuple (.var 4)))))⟩
/-- slots: 0 box, 1 many_so, 2 high_so, 3 turn -/
def p_law_bounds : Fn := ⟨3, 4, (.ret (.tuple (.comp (.bin .add (.const (.int 1)) (.callio 43 0 (.cons (.var 2) .nil))) (.name 3) (.range (.cons (.var 1) .nil)) (.const (.bool true)))))⟩
/-- slots: 0 coefs_so, 1 bounds_so, 2 found, 3 own, 4 most_so, 5 more_so, 6 bit, 7 k -/
def b_law_sums_1 : S := (.asg 5 (.bin .add (.var 5) (.comp (.bin .add (.var 6) (.bin .mul (.var 3) (.var 7))) (.name 7) (.range (.cons (.bin .add (.var 4) (.const (.int 1))) .nil)) (.const (.bool true)))))
def b_law_sums_2 : S := (.seq (.asg 5 (.lst .nil))
    (.seq (.for_ (.name 6) (.var 2) b_law_sums_1)
    (.asg 2 (.bcall .sortedset (.cons (.var 5) .nil)))))
def p_law_sums : Fn := ⟨2, 8, (.seq (.asg 2 (.lst (.cons (.const (.int 0)) .nil)))
    (.seq (.for_ (.tup (.cons (.name 3) (.cons (.name 4) .nil))) (.zip (.cons (.var 0) (.cons (.var 1) .nil))) b_law_sums_2)
    (.ret (.var 2))))⟩
/-- slots: 0 coefs_so, 1 found, 2 own, 3 near_so, 4 far_so, 5 lap -/
def b_law_step_1 : S := (.ite (.cmp .ne (.var 4) (.const (.int 0)))
    (.par [3, 4] (.cons (.var 4) (.cons (.bin .mod (.bcall .int (.cons (.var 3) .nil)) (.var 4)) .nil)))
    .skip)
def b_law_step_2 : S := (.seq (.par [3, 4] (.cons (.bcall .abs (.cons (.var 2) .nil)) (.cons (.var 1) .nil)))
    (.seq (.for_ (.name 5) (.range (.cons (.const (.int 400)) .nil)) b_law_step_1)
    (.asg 1 (.var 3))))
def p_law_step : Fn := ⟨1, 6, (.seq (.asg 1 (.const (.int 0)))
    (.seq (.for_ (.name 2) (.var 0) b_law_step_2)
    (.ret (.var 1))))⟩
/-- slots: 0 row_so, 1 bounds_so, 2 step_so, 3 found, 4 low_so, 5 high_so, 6 k -/
def p_law_holes : Fn := ⟨2, 7, (.seq (.par [2, 3] (.cons (.call 47 (.cons (.var 0) .nil)) (.cons (.call 103 (.cons (.var 0) (.cons (.var 1) .nil))) .nil)))
    (.seq (.asgT (.tup (.cons (.name 4) (.cons (.name 5) .nil))) (.call 122 (.cons (.var 0) (.cons (.var 1) .nil))))
    (.ret (.comp (.var 6) (.name 6) (.range (.cons (.var 4) (.cons (.bin .add (.var 5) (.const (.int 1))) .nil))) (.and (.inv true (.var 6) 3) (.and (.cmp .gt (.var 2) (.const (.int 0))) (.cmp .eq (.bin .mod (.var 6) (.var 2)) (.const (.int 0)))))))))⟩
/-- slots: 0 coefs_so, 1 bounds_so, 2 sums_so, 3 holes_so, 4 low_so, 5 high_so, 6 got, 7 ever_so, 8 own -/
def p_law_state_right : Fn := ⟨2, 9, (.seq (.par [2, 3] (.cons (.call 90 (.cons (.var 0) (.cons (.var 1) .nil))) (.cons (.call 92 (.cons (.var 0) (.cons (.var 1) .nil))) .nil)))
    (.seq (.par [4, 5] (.cons (.idxv 2 (.const (.int 0))) (.cons (.idxv 2 (.neg (.const (.int 1)))) .nil)))
    (.seq (.asg 6 (.lst (.cons (.call 8 (.cons (.var 0) (.cons (.var 1) .nil))) (.cons (.call 30 (.cons (.var 0) (.cons (.var 1) .nil))) (.cons (.call 1 (.cons (.var 0) (.cons (.var 1) .nil))) .nil)))))
    (.seq (.asg 6 (.bin .add (.var 6) (.lst (.cons (.call 2 (.cons (.var 0) (.cons (.var 1) .nil))) (.cons (.call 14 (.cons (.var 0) (.cons (.var 1) .nil))) .nil)))))
    (.seq (.app 6 (.cmp .notN (.call 15 (.cons (.var 0) (.cons (.var 1) .nil))) (.const .none)))
    (.seq (.ite (.not (.call 46 (.cons (.var 6) (.cons (.lst (.cons (.var 2) (.cons (.var 3) (.cons (.var 4) (.cons (.var 5) (.cons (.cmp .eq (.var 3) (.lst .nil)) (.cons (.cmp .eq (.var 3) (.lst .nil)) .nil))))))) .nil))))
    (.ret (.const (.bool false)))
    .skip)
    (.seq (.ite (.cmp .ne (.bcall .sorted (.cons (.comp (.bin .sub (.bin .add (.var 4) (.var 5)) (.var 8)) (.name 8) (.var 3) (.const (.bool true))) .nil)) (.var 3))
    (.ret (.const (.bool false)))
    .skip)
    (.seq (.asg 7 (.comp (.var 8) (.name 8) (.call 86 (.cons (.var 0) (.cons (.var 4) (.cons (.var 5) .nil)))) (.inv false (.var 8) 3)))
    (.ret (.and (.call 46 (.cons (.call 40 (.cons (.var 0) (.cons (.var 1) .nil))) (.cons (.var 7) .nil))) (.inv false (.call 18 (.cons (.var 0) (.cons (.var 1) .nil))) 2)))))))))))⟩
/-- slots: 0 coefs_so, 1 old_so, 2 new_so, 3 gone_so, 4 wide_so, 5 own -/
def p_law_step_right : Fn := ⟨3, 6, (.seq (.asg 3 (.comp (.var 5) (.name 5) (.call 90 (.cons (.var 0) (.cons (.var 1) .nil))) (.cmp .notin (.var 5) (.call 90 (.cons (.var 0) (.cons (.var 2) .nil))))))
    (.seq (.ite (.or (.cmp .ne (.var 3) (.lst .nil)) (.and (.call 14 (.cons (.var 0) (.cons (.var 1) .nil))) (.not (.call 14 (.cons (.var 0) (.cons (.var 2) .nil))))))
    (.ret (.const (.bool false)))
    .skip)
    (.seq (.asg 4 (.cmp .gt (.bin .sub (.call 2 (.cons (.var 0) (.cons (.var 1) .nil))) (.call 1 (.cons (.var 0) (.cons (.var 1) .nil)))) (.call 78 (.cons (.var 0) .nil))))
    (.seq (.ite (.and (.call 34 (.cons (.var 0) (.cons (.var 1) .nil))) (.and (.var 4) (.not (.call 34 (.cons (.var 0) (.cons (.var 2) .nil))))))
    (.ret (.const (.bool false)))
    .skip)
    (.ret (.or (.not (.call 81 (.cons (.var 0) (.cons (.var 1) .nil)))) (.and (.call 34 (.cons (.var 0) (.cons (.var 2) .nil))) (.call 81 (.cons (.var 0) (.cons (.var 2) .nil))))))))))⟩
/-- slots: 0 coefs_so, 1 bounds_so, 2 steps_so, 3 states_so, 4 own, 5 last_so, 6 k, 7 from_so, 8 many_so -/
def b_law_walk_right_1 : S := (.seq (.asg 5 (.idxv 3 (.neg (.const (.int 1)))))
    (.app 3 (.bin .add (.bin .add (.slice (.var 5) .nil (.var 4)) (.tup (.cons (.bin .add (.idxv 5 (.var 4)) (.const (.int 1))) .nil))) (.slice (.var 5) (.bin .add (.var 4) (.const (.int 1))) .nil))))
def b_law_walk_right_2 : S := (.ite (.not (.call 94 (.cons (.var 0) (.cons (.idxv 3 (.var 6)) (.cons (.idxv 3 (.bin .add (.var 6) (.const (.int 1)))) .nil)))))
    (.ret (.const (.bool false)))
    .skip)
def b_law_walk_right_3 : S := (.ite (.and (.cmp .notN (.var 7) (.const .none)) (.and (.cmp .ge (.bcall .min (.cons (.bin .add (.var 4) (.tup (.cons (.const (.int 99)) .nil))) .nil)) (.var 7)) (.not (.call 14 (.cons (.var 0) (.cons (.var 4) .nil))))))
    (.ret (.const (.bool false)))
    .skip)
def b_law_walk_right_4 : S := (.seq (.asg 8 (.call 85 (.cons (.var 0) (.cons (.var 4) .nil))))
    (.ite (.or (.cmp .isN (.var 8) (.const .none)) (.cmp .gt (.var 8) (.bcall .max (.cons (.bin .add (.idxv 3 (.neg (.const (.int 1)))) (.tup (.cons (.const (.int 1)) .nil))) .nil))))
    (.ret (.const (.bool false)))
    .skip))
def p_law_walk_right : Fn := ⟨3, 9, (.seq (.asg 3 (.lst (.cons (.var 1) .nil)))
    (.seq (.for_ (.name 4) (.var 2) b_law_walk_right_1)
    (.seq (.ite (.not (.bcall .all (.cons (.comp (.call 93 (.cons (.var 0) (.cons (.var 4) .nil))) (.name 4) (.var 3) (.const (.bool true))) .nil)))
    (.ret (.const (.bool false)))
    .skip)
    (.seq (.for_ (.name 6) (.range (.cons (.lenv 2) .nil)) b_law_walk_right_2)
    (.seq (.asg 7 (.call 19 (.cons (.var 0) .nil)))
    (.seq (.for_ (.name 4) (.var 3) b_law_walk_right_3)
    (.seq (.for_ (.name 4) (.slice (.call 90 (.cons (.var 0) (.cons (.idxv 3 (.neg (.const (.int 1)))) .nil))) .nil (.const (.int 4))) b_law_walk_right_4)
    (.ret (.const (.bool true))))))))))⟩
/-- slots: 0 coefficients, 1 number -/
def p_is_heap : Fn := ⟨2, 2, (.seq (.ite (.or (.cmp .le (.var 1) (.const (.int 0))) (.cmp .eq (.lenv 0) (.const (.int 0))))
    (.ret (.cmp .eq (.var 1) (.const (.int 0))))
    .skip)
    (.ret (.call 27 (.cons (.call 26 (.cons (.var 0) .nil)) (.cons (.idx (.call 24 (.cons (.var 0) .nil)) (.const (.int 0))) (.cons (.var 1) .nil))))))⟩
/-- slots: 0 coefficients, 1 place, 2 number, 3 size -/
def p_least_in_class : Fn := ⟨3, 4, (.seq (.expr (.call 20 (.cons (.var 0) (.cons (.var 1) .nil))))
    (.seq (.asg 3 (.bcall .abs (.cons (.idxv 0 (.var 1)) .nil)))
    (.ret (.mcall .get (.idx (.call 25 (.cons (.call 24 (.cons (.var 0) .nil)) (.cons (.var 3) .nil))) (.const (.int 0))) (.cons (.bin .mod (.var 2) (.var 3)) .nil)))))⟩
/-- slots: 0 coefficients, 1 last -/
def p_is_halved : Fn := ⟨1, 2, (.seq (.asg 1 (.call 98 (.cons (.var 0) .nil)))
    (.ret (.or (.cmp .isN (.var 1) (.const .none)) (.cmp .eq (.bin .mul (.const (.int 2)) (.call 97 (.cons (.var 0) .nil))) (.bin .add (.bin .fdiv (.var 1) (.call 3 (.cons (.var 0) .nil))) (.const (.int 1)))))))⟩
/-- slots: 0 coefficients -/
def p_holes_at_last : Fn := ⟨1, 1, (.ret (.bin .mul (.const (.int 2)) (.bcall .len (.cons (.call 28 (.cons (.var 0) .nil)) .nil))))⟩
/-- slots: 0 rows_so, 1 found, 2 own -/
def b_law_flat_1 : S := (.ext 1 (.var 2))
def p_law_flat : Fn := ⟨1, 3, (.seq (.asg 1 (.lst .nil))
    (.seq (.for_ (.name 2) (.var 0) b_law_flat_1)
    (.ret (.var 1))))⟩
/-- slots: 0 row_so, 1 bounds_so, 2 found, 3 own, 4 bound_so, 5 later_so, 6 sum_so, 7 k, 8 spot_so -/
def b_law_counts_1 : S := (.seq (.asg 8 (.bin .add (.var 6) (.bin .mul (.var 3) (.var 7))))
    (.seti 5 (.var 8) (.bin .add (.getv 5 (.cons (.var 8) (.cons (.const (.int 0)) .nil))) (.idxv 2 (.var 6)))))
def b_law_counts_2 : S := (.for_ (.name 7) (.range (.cons (.bin .add (.var 4) (.const (.int 1))) .nil)) b_law_counts_1)
def b_law_counts_3 : S := (.seq (.asg 5 (.dict .nil))
    (.seq (.for_ (.name 6) (.var 2) b_law_counts_2)
    (.asg 2 (.var 5))))
def p_law_counts : Fn := ⟨2, 9, (.seq (.asg 2 (.dict (.cons (.const (.int 0)) (.cons (.const (.int 1)) .nil))))
    (.seq (.for_ (.tup (.cons (.name 3) (.cons (.name 4) .nil))) (.zip (.cons (.var 0) (.cons (.var 1) .nil))) b_law_counts_3)
    (.ret (.var 2))))⟩
/-- slots: 0 coefficients, 1 places, 2 place -/
def p_needless : Fn := ⟨1, 3, (.seq (.asg 1 (.list (.range (.cons (.lenv 0) .nil))))
    (.ret (.tuple (.comp (.var 2) (.name 2) (.var 1) (.call 96 (.cons (.call 22 (.cons (.var 0) (.cons (.var 2) .nil))) (.cons (.bcall .abs (.cons (.idxv 0 (.var 2)) .nil)) .nil)))))))⟩
/-- slots: 0 coefficients, 1 found, 2 own -/
def b_bare_coefficients_1 : S := (.ite (.not (.call 96 (.cons (.var 1) (.cons (.var 2) .nil))))
    (.app 1 (.var 2))
    .skip)
def p_bare_coefficients : Fn := ⟨1, 3, (.seq (.asg 1 (.lst .nil))
    (.seq (.for_ (.name 2) (.call 24 (.cons (.var 0) .nil)) b_bare_coefficients_1)
    (.ret (.tuple (.var 1)))))⟩
/-- slots: 0 one, 1 other -/
def p_same_heaps : Fn := ⟨2, 2, (.ret (.cmp .eq (.call 105 (.cons (.var 0) .nil)) (.call 105 (.cons (.var 1) .nil))))⟩
/-- slots: 0 row_so, 1 most_so, 2 found, 3 k, 4 own -/
def b_law_heap_1 : S := (.seti 2 (.var 3) (.cmp .ne (.comp (.var 4) (.name 4) (.var 0) (.and (.cmp .le (.bcall .abs (.cons (.var 4) .nil)) (.var 3)) (.idxv 2 (.bin .sub (.var 3) (.bcall .abs (.cons (.var 4) .nil)))))) (.lst .nil)))
def p_law_heap : Fn := ⟨2, 5, (.seq (.asg 2 (.bin .add (.lst (.cons (.const (.bool true)) .nil)) (.bin .mul (.lst (.cons (.const (.bool false)) .nil)) (.var 1))))
    (.seq (.for_ (.name 3) (.range (.cons (.const (.int 1)) (.cons (.bin .add (.var 1) (.const (.int 1))) .nil))) b_law_heap_1)
    (.ret (.var 2))))⟩
/-- slots: 0 thing -/
def p_is_number : Fn := ⟨1, 1, (.ret (.and (.isi (.var 0) [.int]) (.not (.isi (.var 0) [.bool]))))⟩
/-- slots: 0 thing, 1 size, 2 least, 3 own -/
def p_are_numbers : Fn := ⟨3, 4, (.ret (.and (.isi (.var 0) [.tuple]) (.and (.cmp .eq (.lenv 0) (.var 1)) (.bcall .all (.cons (.comp (.and (.call 108 (.cons (.var 3) .nil)) (.cmp .ge (.var 3) (.var 2))) (.name 3) (.var 0) (.const (.bool true))) .nil)))))⟩
/-- slots: 0 coefficients, 1 number, 2 own, 3 sizes, 4 found, 5 size, 6 least, 7 last, 8 here -/
def b_heap_counts_1 : S := (.seq (.asg 2 (.idxv 7 (.bin .mod (.var 8) (.var 5))))
    (.seq (.augi 4 (.mcall .index (.var 3) (.cons (.var 2) .nil)) .add (.const (.int 1)))
    (.aug 8 .sub (.var 2))))
def p_heap_counts : Fn := ⟨2, 9, (.seq (.ite (.not (.call 96 (.cons (.var 0) (.cons (.var 1) .nil))))
    (.ret (.const .none))
    .skip)
    (.seq (.asg 3 (.comp (.bcall .abs (.cons (.var 2) .nil)) (.name 2) (.var 0) (.const (.bool true))))
    (.seq (.asg 4 (.bin .mul (.lst (.cons (.const (.int 0)) .nil)) (.lenv 3)))
    (.seq (.ite (.cmp .gt (.var 1) (.const (.int 0)))
    (.seq (.asg 5 (.bcall .min (.cons (.var 3) .nil)))
    (.seq (.asgT (.tup (.cons (.name 6) (.cons (.name 7) .nil))) (.call 25 (.cons (.call 24 (.cons (.var 0) .nil)) (.cons (.var 5) .nil))))
    (.seq (.asg 8 (.idxv 6 (.bin .mod (.var 1) (.var 5))))
    (.seq (.seti 4 (.mcall .index (.var 3) (.cons (.var 5) .nil)) (.bin .fdiv (.bin .sub (.var 1) (.var 8)) (.var 5)))
    (.while_ (.cmp .gt (.var 8) (.const (.int 0))) b_heap_counts_1)))))
    .skip)
    (.ret (.tuple (.var 4)))))))⟩
/-- slots: 0 coefficients, 1 number, 2 thing, 3 own, 4 many -/
def p_is_heap_counts : Fn := ⟨3, 5, (.seq (.ite (.not (.call 109 (.cons (.var 2) (.cons (.lenv 0) (.cons (.const (.int 0)) .nil)))))
    (.ret (.const (.bool false)))
    .skip)
    (.ret (.cmp .eq (.bcall .sum (.cons (.comp (.bin .mul (.bcall .abs (.cons (.var 3) .nil)) (.var 4)) (.tup (.cons (.name 3) (.cons (.name 4) .nil))) (.zip (.cons (.var 0) (.cons (.var 2) .nil))) (.const (.bool true))) .nil)) (.var 1))))⟩
/-- slots: 0 coefficients, 1 number, 2 found, 3 here, 4 rest, 5 own -/
def b_fewest_counts_1 : S := (.seq (.asg 4 (.comp (.idxv 2 (.bin .sub (.var 3) (.var 5))) (.name 5) (.call 24 (.cons (.var 0) .nil)) (.inv false (.bin .sub (.var 3) (.var 5)) 2)))
    (.ite (.cmp .gt (.lenv 4) (.const (.int 0)))
    (.seti 2 (.var 3) (.bin .add (.bcall .min (.cons (.var 4) .nil)) (.const (.int 1))))
    .skip))
def p_fewest_counts : Fn := ⟨2, 6, (.seq (.asg 2 (.dict (.cons (.const (.int 0)) (.cons (.const (.int 0)) .nil))))
    (.seq (.for_ (.name 3) (.range (.cons (.const (.int 1)) (.cons (.bin .add (.var 1) (.const (.int 1))) .nil))) b_fewest_counts_1)
    (.ret (.getv 2 (.cons (.var 1) .nil)))))⟩
/-- slots: 0 coefficients, 1 bounds, 2 thing, 3 sizes, 4 own, 5 place -/
def p_is_chain : Fn := ⟨3, 6, (.seq (.ite (.or (.not (.isi (.var 2) [.tuple])) (.not (.bcall .all (.cons (.comp (.call 108 (.cons (.var 4) .nil)) (.name 4) (.var 2) (.const (.bool true))) .nil))))
    (.ret (.const (.bool false)))
    .skip)
    (.seq (.ite (.cmp .ne (.bcall .sorted (.cons (.var 2) .nil)) (.list (.range (.cons (.lenv 0) .nil))))
    (.ret (.const (.bool false)))
    .skip)
    (.seq (.asg 3 (.comp (.bcall .abs (.cons (.idxv 0 (.var 5)) .nil)) (.name 5) (.var 2) (.const (.bool true))))
    (.ret (.and (.cmp .eq (.var 3) (.bcall .sorted (.cons (.var 3) .nil))) (.call 14 (.cons (.var 0) (.cons (.var 1) .nil))))))))⟩
/-- slots: 0 facts -/
def p_all_between : Fn := ⟨1, 1, (.ret (.list (.range (.cons (.idxv 0 (.const (.str "low"))) (.cons (.bin .add (.idxv 0 (.const (.str "high"))) (.const (.int 1))) .nil)))))⟩
/-- slots: 0 coefficients, 1 bounds, 2 facts, 3 rows, 4 own, 5 test -/
def p_tellers : Fn := ⟨2, 6, (.seq (.asg 2 (.call 35 (.cons (.var 0) (.cons (.var 1) .nil))))
    (.seq (.asg 3 (.comp (.tuple (.comp (.var 5) (.name 5) (.const (.tup [(.str "divisor"), (.str "range"), (.str "chain"), (.str "heaps"), (.str "settled"), (.str "walk")])) (.cmp .notN (.call 36 (.cons (.var 2) (.cons (.var 4) (.cons (.var 5) .nil)))) (.const .none)))) (.name 4) (.call 114 (.cons (.var 2) .nil)) (.const (.bool true))))
    (.ret (.bcall .sortedset (.cons (.var 3) .nil)))))⟩
/-- slots: 0 coefficients, 1 bounds, 2 rows, 3 fine, 4 own, 5 row, 6 test -/
def p_fewest_tests : Fn := ⟨2, 7, (.seq (.asg 2 (.call 115 (.cons (.var 0) (.cons (.var 1) .nil))))
    (.seq (.asg 3 (.comp (.var 4) (.name 4) (.call 116 .nil) (.bcall .all (.cons (.comp (.bcall .any (.cons (.comp (.inv false (.var 6) 5) (.name 6) (.var 4) (.const (.bool true))) .nil)) (.name 5) (.var 2) (.const (.bool true))) .nil))))
    (.ret (.ite (.cmp .gt (.lenv 3) (.const (.int 0))) (.idxv 3 (.const (.int 0))) (.const .none)))))⟩
/-- slots: 0 row_so, 1 at_so, 2 bit_so -/
def p_law_put : Fn := ⟨3, 3, (.ret (.bin .add (.bin .add (.slice (.var 0) .nil (.var 1)) (.tup (.cons (.var 2) .nil))) (.slice (.var 0) (.bin .add (.var 1) (.const (.int 1))) .nil)))⟩
/-- slots: 0 base_so, 1 many_so, 2 number_so, 3 found, 4 k -/
def b_law_digits_1 : S := (.seq (.app 3 (.bin .mod (.var 2) (.var 0)))
    (.asg 2 (.bin .fdiv (.var 2) (.var 0))))
def p_law_digits : Fn := ⟨3, 5, (.seq (.asg 3 (.lst .nil))
    (.seq (.for_ (.name 4) (.range (.cons (.var 1) .nil)) b_law_digits_1)
    (.ret (.tuple (.var 3)))))⟩
/-- slots: 0 coefficients, 1 bounds, 2 number, 3 thing, 4 many, 5 most -/
def p_is_counters_for : Fn := ⟨4, 6, (.seq (.ite (.not (.call 109 (.cons (.var 3) (.cons (.lenv 0) (.cons (.const (.int 0)) .nil)))))
    (.ret (.const (.bool false)))
    .skip)
    (.ret (.and (.bcall .all (.cons (.comp (.cmp .le (.var 4) (.var 5)) (.tup (.cons (.name 4) (.cons (.name 5) .nil))) (.zip (.cons (.var 3) (.cons (.var 1) .nil))) (.const (.bool true))) .nil)) (.cmp .eq (.call 52 (.cons (.var 0) (.cons (.var 3) .nil))) (.var 2)))))⟩
/-- slots: 0 coefficients, 1 bounds, 2 facts, 3 found, 4 own, 5 test -/
def p_how_many_told : Fn := ⟨2, 6, (.seq (.asg 2 (.call 35 (.cons (.var 0) (.cons (.var 1) .nil))))
    (.seq (.asg 3 (.comp (.idx (.call 37 (.cons (.var 2) (.cons (.var 4) .nil))) (.const (.int 0))) (.name 4) (.call 114 (.cons (.var 2) .nil)) (.const (.bool true))))
    (.ret (.tuple (.comp (.mcall .count (.var 3) (.cons (.var 5) .nil)) (.name 5) (.const (.tup [(.str "divisor"), (.str "range"), (.str "chain"), (.str "heaps"), (.str "settled"), (.str "walk")])) (.const (.bool true)))))))⟩
/-- slots: 0 row_so, 1 bounds_so, 2 a, 3 b -/
def p_law_ends : Fn := ⟨2, 4, (.ret (.tup (.cons (.bcall .sum (.cons (.comp (.bcall .min (.cons (.lst (.cons (.const (.int 0)) (.cons (.bin .mul (.var 2) (.var 3)) .nil))) .nil)) (.tup (.cons (.name 2) (.cons (.name 3) .nil))) (.zip (.cons (.var 0) (.cons (.var 1) .nil))) (.const (.bool true))) .nil)) (.cons (.bcall .sum (.cons (.comp (.bcall .max (.cons (.lst (.cons (.const (.int 0)) (.cons (.bin .mul (.var 2) (.var 3)) .nil))) .nil)) (.tup (.cons (.name 2) (.cons (.name 3) .nil))) (.zip (.cons (.var 0) (.cons (.var 1) .nil))) (.const (.bool true))) .nil)) .nil))))⟩
/-- slots: 0 coefficients, 1 bounds, 2 number -/
def p_is_let : Fn := ⟨3, 3, (.seq (.ite (.not (.chain .le .le (.call 1 (.cons (.var 0) (.cons (.var 1) .nil))) (.var 2) (.call 2 (.cons (.var 0) (.cons (.var 1) .nil)))))
    (.ret (.const (.bool false)))
    .skip)
    (.ret (.call 4 (.cons (.call 3 (.cons (.var 0) .nil)) (.cons (.var 2) .nil)))))⟩
/-- slots: 0 thing -/
def p_is_pair : Fn := ⟨1, 1, (.ret (.and (.isi (.var 0) [.tuple]) (.cmp .eq (.lenv 0) (.const (.int 2)))))⟩
/-- slots: 0 loops, 1 thing, 2 many, 3 name, 4 most -/
def p_is_round : Fn := ⟨2, 5, (.seq (.ite (.not (.call 109 (.cons (.var 1) (.cons (.lenv 0) (.cons (.const (.int 0)) .nil)))))
    (.ret (.const (.bool false)))
    .skip)
    (.ret (.bcall .all (.cons (.comp (.cmp .le (.var 2) (.var 4)) (.tup (.cons (.name 2) (.cons (.tup (.cons (.name 3) (.cons (.name 4) .nil))) .nil))) (.zip (.cons (.var 1) (.cons (.var 0) .nil))) (.const (.bool true))) .nil))))⟩
/-- slots: 0 loops, 1 one, 2 other, 3 coefficients, 4 bounds, 5 number -/
def p_may_touch : Fn := ⟨3, 6, (.seq (.asgT (.tup (.cons (.name 3) (.cons (.name 4) (.cons (.name 5) .nil)))) (.call 58 (.cons (.var 0) (.cons (.var 1) (.cons (.var 2) .nil)))))
    (.ret (.call 123 (.cons (.var 3) (.cons (.var 4) (.cons (.var 5) .nil))))))⟩
/-- slots: 0 loops, 1 one, 2 other, 3 thing -/
def p_is_touching : Fn := ⟨4, 4, (.seq (.ite (.or (.not (.call 124 (.cons (.var 3) .nil))) (.or (.not (.call 125 (.cons (.var 0) (.cons (.idxv 3 (.const (.int 0))) .nil)))) (.not (.call 125 (.cons (.var 0) (.cons (.idxv 3 (.const (.int 1))) .nil))))))
    (.ret (.const (.bool false)))
    .skip)
    (.ret (.cmp .eq (.call 56 (.cons (.var 1) (.cons (.idxv 3 (.const (.int 0))) .nil))) (.call 56 (.cons (.var 2) (.cons (.idxv 3 (.const (.int 1))) .nil))))))⟩
/-- slots: 0 loops, 1 place -/
def p_touches_itself : Fn := ⟨2, 2, (.ret (.cmp .lt (.bcall .len (.cons (.call 62 (.cons (.var 0) (.cons (.var 1) .nil))) .nil)) (.call 55 (.cons (.var 0) .nil))))⟩
/-- slots: 0 one, 1 other -/
def p_sign_of : Fn := ⟨2, 2, (.ret (.ite (.cmp .eq (.var 0) (.var 1)) (.const (.str "=")) (.ite (.cmp .lt (.var 0) (.var 1)) (.const (.str "<")) (.const (.str ">")))))⟩
/-- slots: 0 one, 1 other -/
def p_goal_of : Fn := ⟨2, 2, (.ret (.bin .sub (.idxv 1 (.const (.int 1))) (.idxv 0 (.const (.int 1)))))⟩
/-- slots: 0 tables, 1 found, 2 low, 3 table, 4 marks, 5 value -/
def b_rests_1 : S := (.seq (.par [4, 2] (.cons (.idx (.idxv 1 (.neg (.const (.int 1)))) (.const (.int 0))) (.cons (.bin .add (.idx (.idxv 1 (.neg (.const (.int 1)))) (.const (.int 1))) (.bcall .min (.cons (.var 3) .nil))) .nil)))
    (.app 1 (.tup (.cons (.call 136 (.cons (.var 4) (.cons (.comp (.bin .sub (.var 5) (.bcall .min (.cons (.var 3) .nil))) (.name 5) (.var 3) (.const (.bool true))) .nil))) (.cons (.var 2) .nil)))))
def p_rests : Fn := ⟨1, 6, (.seq (.par [1, 2] (.cons (.lst (.cons (.tup (.cons (.const (.int 1)) (.cons (.const (.int 0)) .nil))) .nil)) (.cons (.const (.int 0)) .nil)))
    (.seq (.for_ (.name 3) (.rev (.var 0)) b_rests_1)
    (.ret (.var 1))))⟩
/-- slots: 0 loops, 1 one, 2 other, 3 signs, 4 tables, 5 goal, 6 marked, 7 found, 8 table, 9 marks, 10 low, 11 value, 12 own, 13 near, 14 far -/
def b_touching_with_1 : S := (.seq (.asg 11 (.idx (.comp (.var 12) (.name 12) (.var 8) (.call 6 (.cons (.var 9) (.cons (.bin .sub (.bin .sub (.var 5) (.var 12)) (.var 10)) .nil)))) (.const (.int 0))))
    (.seq (.app 7 (.idxv 8 (.var 11)))
    (.aug 5 .sub (.var 11))))
def p_touching_with : Fn := ⟨4, 15, (.seq (.par [4, 5] (.cons (.call 134 (.cons (.var 0) (.cons (.var 1) (.cons (.var 2) (.cons (.var 3) .nil))))) (.cons (.call 131 (.cons (.var 1) (.cons (.var 2) .nil))) .nil)))
    (.seq (.asg 6 (.rev (.call 135 (.cons (.var 4) .nil))))
    (.seq (.ite (.not (.call 6 (.cons (.idx (.idxv 6 (.const (.int 0))) (.const (.int 0))) (.cons (.bin .sub (.var 5) (.idx (.idxv 6 (.const (.int 0))) (.const (.int 1)))) .nil))))
    (.ret (.const .none))
    .skip)
    (.seq (.asg 7 (.lst .nil))
    (.seq (.for_ (.tup (.cons (.name 8) (.cons (.tup (.cons (.name 9) (.cons (.name 10) .nil))) .nil))) (.zip (.cons (.var 4) (.cons (.slice (.var 6) (.const (.int 1)) .nil) .nil))) b_touching_with_1)
    (.ret (.tup (.cons (.tuple (.comp (.var 13) (.tup (.cons (.name 13) (.cons (.name 14) .nil))) (.var 7) (.const (.bool true)))) (.cons (.tuple (.comp (.var 14) (.tup (.cons (.name 13) (.cons (.name 14) .nil))) (.var 7) (.const (.bool true)))) .nil)))))))))⟩
/-- slots: 0 loops, 1 one, 2 other, 3 signs -/
def p_touch_with : Fn := ⟨4, 4, (.ret (.cmp .notN (.call 137 (.cons (.var 0) (.cons (.var 1) (.cons (.var 2) (.cons (.var 3) .nil))))) (.const .none)))⟩
/-- slots: 0 loops, 1 one, 2 other, 3 signs -/
def p_all_signs : Fn := ⟨3, 4, (.ret (.comp (.var 3) (.name 3) (.call 130 (.cons (.lenv 0) .nil)) (.call 138 (.cons (.var 0) (.cons (.var 1) (.cons (.var 2) (.cons (.var 3) .nil)))))))⟩
/-- slots: 0 loops, 1 one, 2 other, 3 found, 4 signs, 5 places, 6 place, 7 sign -/
def b_carried_by_1 : S := (.seq (.asg 5 (.comp (.var 6) (.tup (.cons (.name 6) (.cons (.name 7) .nil))) (.enum (.var 4)) (.cmp .ne (.var 7) (.const (.str "=")))))
    (.ite (.cmp .gt (.lenv 5) (.const (.int 0)))
    (.seti 3 (.idx (.idxv 0 (.idxv 5 (.const (.int 0)))) (.const (.int 0))) (.const (.bool true)))
    .skip))
def p_carried_by : Fn := ⟨3, 8, (.seq (.asg 3 (.dict .nil))
    (.seq (.for_ (.name 4) (.call 139 (.cons (.var 0) (.cons (.var 1) (.cons (.var 2) .nil)))) b_carried_by_1)
    (.ret (.tuple (.bcall .sorted (.cons (.var 3) .nil))))))⟩
/-- slots: 0 text, 1 sign -/
def p_is_name : Fn := ⟨1, 2, (.ret (.and (.chain .le .le (.const (.int 1)) (.lenv 0) (.const (.int 8))) (.bcall .all (.cons (.comp (.cmp .in_ (.var 1) (.const (.str "abcdefghijklmnopqrstuvwxyz"))) (.name 1) (.var 0) (.const (.bool true))) .nil))))⟩
/-- slots: 0 found, 1 is_right -/
def p_sure_of : Fn := ⟨2, 2, (.seq (.ite (.not (.var 1))
    .fail
    .skip)
    (.ret (.var 0)))⟩
/-- slots: 0 text, 1 sign -/
def p_digits_in : Fn := ⟨1, 2, (.seq (.expr (.call 144 (.cons (.const .none) (.cons (.and (.cmp .ne (.var 0) (.const (.str ""))) (.bcall .all (.cons (.comp (.cmp .in_ (.var 1) (.const (.str "0123456789"))) (.name 1) (.var 0) (.const (.bool true))) .nil))) .nil))))
    (.ret (.call 144 (.cons (.call 145 (.cons (.var 0) .nil)) (.cons (.or (.cmp .ne (.idxv 0 (.const (.int 0))) (.const (.str "0"))) (.cmp .eq (.var 0) (.const (.str "0")))) .nil)))))⟩
/-- slots: 0 place_so, 1 k, 2 bound_so, 3 numbers_so, 4 number_so -/
def p_law_turned : Fn := ⟨3, 5, (.seq (.asgT (.tup (.cons (.name 3) (.cons (.name 4) .nil))) (.var 0))
    (.ret (.tup (.cons (.call 118 (.cons (.var 3) (.cons (.var 1) (.cons (.bin .sub (.const (.int 0)) (.idxv 3 (.var 1))) .nil)))) (.cons (.bin .add (.var 4) (.bin .mul (.idxv 3 (.var 1)) (.var 2))) .nil)))))⟩
/-- slots: 0 signs_so, 1 k -/
def p_law_over : Fn := ⟨2, 2, (.ret (.bin .add (.bin .add (.slice (.var 0) .nil (.var 1)) (.idx (.dict (.cons (.const (.str "<")) (.cons (.const (.str ">")) (.cons (.const (.str ">")) (.cons (.const (.str "<")) (.cons (.const (.str "=")) (.cons (.const (.str "=")) .nil))))))) (.idxv 0 (.var 1)))) (.slice (.var 0) (.bin .add (.var 1) (.const (.int 1))) .nil)))⟩
/-- slots: 0 most, 1 sign, 2 found, 3 early, 4 late -/
def p_corners : Fn := ⟨2, 5, (.seq (.ite (.cmp .eq (.var 1) (.const (.str "=")))
    (.ret (.lst (.cons (.tup (.cons (.const (.int 0)) (.cons (.const (.int 0)) .nil))) (.cons (.tup (.cons (.var 0) (.cons (.var 0) .nil))) .nil))))
    .skip)
    (.seq (.asg 2 (.lst (.cons (.tup (.cons (.const (.int 0)) (.cons (.const (.int 1)) .nil))) (.cons (.tup (.cons (.const (.int 0)) (.cons (.var 0) .nil))) (.cons (.tup (.cons (.bin .sub (.var 0) (.const (.int 1))) (.cons (.var 0) .nil))) .nil)))))
    (.ret (.ite (.cmp .eq (.var 1) (.const (.str "<"))) (.var 2) (.comp (.tup (.cons (.var 4) (.cons (.var 3) .nil))) (.tup (.cons (.name 3) (.cons (.name 4) .nil))) (.var 2) (.const (.bool true)))))))⟩
/-- slots: 0 own, 1 far, 2 pairs, 3 one, 4 other -/
def p_values_at : Fn := ⟨3, 5, (.ret (.comp (.bin .sub (.bin .mul (.var 0) (.var 3)) (.bin .mul (.var 1) (.var 4))) (.tup (.cons (.name 3) (.cons (.name 4) .nil))) (.var 2) (.const (.bool true))))⟩
/-- slots: 0 own, 1 far, 2 most, 3 sign -/
def p_step_at : Fn := ⟨4, 4, (.seq (.ite (.cmp .eq (.var 3) (.const (.str "=")))
    (.ret (.bcall .abs (.cons (.bin .sub (.var 0) (.var 1)) .nil)))
    .skip)
    (.ret (.ite (.cmp .gt (.var 2) (.const (.int 1))) (.call 3 (.cons (.tup (.cons (.var 0) (.cons (.var 1) .nil))) .nil)) (.const (.int 0)))))⟩
/-- slots: 0 loops, 1 one, 2 other, 3 signs, 4 least, 5 greatest, 6 common, 7 own, 8 far, 9 most, 10 sign, 11 ends -/
def b_lets_with_1 : S := (.seq (.asg 11 (.call 153 (.cons (.var 7) (.cons (.var 8) (.cons (.call 152 (.cons (.var 9) (.cons (.var 10) .nil))) .nil)))))
    (.par [4, 5, 6] (.cons (.bin .add (.var 4) (.bcall .min (.cons (.var 11) .nil))) (.cons (.bin .add (.var 5) (.bcall .max (.cons (.var 11) .nil))) (.cons (.call 3 (.cons (.tup (.cons (.var 6) (.cons (.call 154 (.cons (.var 7) (.cons (.var 8) (.cons (.var 9) (.cons (.var 10) .nil))))) .nil))) .nil)) .nil)))))
def p_lets_with : Fn := ⟨4, 12, (.seq (.par [4, 5, 6] (.cons (.const (.int 0)) (.cons (.const (.int 0)) (.cons (.const (.int 0)) .nil))))
    (.seq (.for_ (.tup (.cons (.name 7) (.cons (.name 8) (.cons (.name 9) (.cons (.name 10) .nil))))) (.call 132 (.cons (.var 0) (.cons (.var 1) (.cons (.var 2) (.cons (.var 3) .nil))))) b_lets_with_1)
    (.ret (.and (.chain .le .le (.var 4) (.call 131 (.cons (.var 1) (.cons (.var 2) .nil))) (.var 5)) (.call 4 (.cons (.var 6) (.cons (.bin .sub (.call 131 (.cons (.var 1) (.cons (.var 2) .nil))) (.var 4)) .nil)))))))⟩
/-- slots: 0 one, 1 other, 2 signs, 3 rest, 4 coefficients, 5 own, 6 far, 7 sign -/
def b_at_all_with_1 : S := (.seq (.app 4 (.bin .sub (.var 5) (.var 6)))
    (.ite (.cmp .eq (.var 7) (.const (.str "<")))
    (.seq (.app 4 (.neg (.var 6)))
    (.aug 3 .add (.var 6)))
    (.ite (.cmp .eq (.var 7) (.const (.str ">")))
    (.seq (.app 4 (.var 5))
    (.aug 3 .sub (.var 5)))
    .skip)))
def p_at_all_with : Fn := ⟨3, 8, (.seq (.par [3, 4] (.cons (.call 131 (.cons (.var 0) (.cons (.var 1) .nil))) (.cons (.lst .nil) .nil)))
    (.seq (.for_ (.tup (.cons (.name 5) (.cons (.name 6) (.cons (.name 7) .nil)))) (.zip (.cons (.idxv 0 (.const (.int 0))) (.cons (.idxv 1 (.const (.int 0))) (.cons (.var 2) .nil)))) b_at_all_with_1)
    (.ret (.call 83 (.cons (.tuple (.comp (.var 5) (.name 5) (.var 4) (.cmp .ne (.var 5) (.const (.int 0))))) (.cons (.var 3) .nil))))))⟩
/-- slots: 0 one, 1 other, 2 signs -/
def p_signs_at_all : Fn := ⟨2, 3, (.ret (.comp (.var 2) (.name 2) (.call 130 (.cons (.bcall .len (.cons (.idxv 0 (.const (.int 0))) .nil)) .nil)) (.call 156 (.cons (.var 0) (.cons (.var 1) (.cons (.var 2) .nil))))))⟩
/-- slots: 0 loops_so, 1 found, 2 name_so, 3 bound_so, 4 own, 5 k -/
def b_law_boxes_1 : S := (.asg 1 (.call 102 (.cons (.comp (.comp (.bin .add (.var 4) (.tup (.cons (.var 5) .nil))) (.name 5) (.range (.cons (.bin .sub (.const (.int 0)) (.var 3)) (.cons (.bin .add (.var 3) (.const (.int 1))) .nil))) (.const (.bool true))) (.name 4) (.var 1) (.const (.bool true))) .nil)))
def p_law_boxes : Fn := ⟨1, 6, (.seq (.asg 1 (.lst (.cons (.tup .nil) .nil)))
    (.seq (.for_ (.tup (.cons (.name 2) (.cons (.name 3) .nil))) (.var 0) b_law_boxes_1)
    (.ret (.var 1))))⟩
/-- slots: 0 number_so -/
def p_law_sign : Fn := ⟨1, 1, (.ret (.ite (.cmp .gt (.var 0) (.const (.int 0))) (.const (.str "<")) (.ite (.cmp .lt (.var 0) (.const (.int 0))) (.const (.str ">")) (.const (.str "=")))))⟩
/-- slots: 0 loops, 1 thing, 2 own -/
def p_is_place : Fn := ⟨2, 3, (.seq (.ite (.or (.not (.call 124 (.cons (.var 1) .nil))) (.or (.not (.isi (.idxv 1 (.const (.int 0))) [.tuple])) (.cmp .ne (.bcall .len (.cons (.idxv 1 (.const (.int 0))) .nil)) (.lenv 0))))
    (.ret (.const (.bool false)))
    .skip)
    (.ret (.and (.bcall .all (.cons (.comp (.call 108 (.cons (.var 2) .nil)) (.name 2) (.idxv 1 (.const (.int 0))) (.const (.bool true))) .nil)) (.call 108 (.cons (.idxv 1 (.const (.int 1))) .nil)))))⟩
/-- slots: 0 loops, 1 one, 2 other, 3 near, 4 far -/
def p_tests_each : Fn := ⟨3, 5, (.seq (.expr (.call 63 (.cons (.var 1) (.cons (.var 2) .nil))))
    (.ret (.tuple (.comp (.call 126 (.cons (.var 0) (.cons (.var 3) (.cons (.var 4) .nil)))) (.tup (.cons (.name 3) (.cons (.name 4) .nil))) (.zip (.cons (.var 1) (.cons (.var 2) .nil))) (.const (.bool true))))))⟩
/-- slots: 0 loops, 1 one, 2 other, 3 some -/
def p_touching_all : Fn := ⟨3, 4, (.seq (.asg 3 (.call 67 (.cons (.var 0) (.cons (.var 1) (.cons (.var 2) .nil)))))
    (.seq (.ite (.cmp .eq (.lenv 3) (.const (.int 0)))
    (.ret (.const .none))
    .skip)
    (.ret (.tup (.cons (.idx (.idx (.call 66 (.cons (.var 0) (.cons (.var 1) .nil))) (.idxv 3 (.const (.int 0)))) (.const (.int 0))) (.cons (.idx (.idx (.call 66 (.cons (.var 0) (.cons (.var 2) .nil))) (.idxv 3 (.const (.int 0)))) (.const (.int 0))) .nil))))))⟩
/-- slots: 0 loops, 1 one, 2 other, 3 thing -/
def p_is_touching_all : Fn := ⟨4, 4, (.seq (.expr (.call 63 (.cons (.var 1) (.cons (.var 2) .nil))))
    (.seq (.ite (.or (.not (.call 124 (.cons (.var 3) .nil))) (.or (.not (.call 125 (.cons (.var 0) (.cons (.idxv 3 (.const (.int 0))) .nil)))) (.not (.call 125 (.cons (.var 0) (.cons (.idxv 3 (.const (.int 1))) .nil))))))
    (.ret (.const (.bool false)))
    .skip)
    (.ret (.cmp .eq (.call 64 (.cons (.var 1) (.cons (.idxv 3 (.const (.int 0))) .nil))) (.call 64 (.cons (.var 2) (.cons (.idxv 3 (.const (.int 1))) .nil)))))))⟩
/-- slots: 0 loops, 1 one, 2 other, 3 k -/
def p_parted_by : Fn := ⟨3, 4, (.seq (.expr (.call 63 (.cons (.var 1) (.cons (.var 2) .nil))))
    (.ret (.tuple (.comp (.var 3) (.name 3) (.range (.cons (.lenv 1) .nil)) (.not (.call 68 (.cons (.var 0) (.cons (.slice (.var 1) (.var 3) (.bin .add (.var 3) (.const (.int 1)))) (.cons (.slice (.var 2) (.var 3) (.bin .add (.var 3) (.const (.int 1)))) .nil)))))))))⟩
/-- slots: 0 tin, 1 many_so, 2 long_so, 3 j, 4 k -/
def p_law_spot : Fn := ⟨3, 5, (.ret (.tuple (.comp (.tup (.cons (.tuple (.comp (.bin .sub (.callio 43 0 (.cons (.const (.int 7)) .nil)) (.const (.int 3))) (.name 4) (.range (.cons (.var 1) .nil)) (.const (.bool true)))) (.cons (.bin .sub (.callio 43 0 (.cons (.const (.int 7)) .nil)) (.const (.int 3))) .nil))) (.name 3) (.range (.cons (.var 2) .nil)) (.const (.bool true)))))⟩
/-- slots: 0 tests, 1 test -/
def b_check_tests_1 : S := (.ite (.cmp .notin (.var 1) (.const (.tup [(.str "divisor"), (.str "range"), (.str "chain"), (.str "heaps"), (.str "settled"), (.str "walk")])))
    .fail
    .skip)
def p_check_tests : Fn := ⟨1, 2, (.for_ (.name 1) (.var 0) b_check_tests_1)⟩
/-- slots: 0 coefficients, 1 bounds, 2 number, 3 test -/
def p_says : Fn := ⟨4, 4, (.seq (.expr (.call 169 (.cons (.tup (.cons (.var 3) .nil)) .nil)))
    (.ret (.call 36 (.cons (.call 35 (.cons (.var 0) (.cons (.var 1) .nil))) (.cons (.var 2) (.cons (.var 3) .nil))))))⟩
/-- slots: 0 coefficients, 1 bounds, 2 number -/
def p_first_telling : Fn := ⟨3, 3, (.ret (.idx (.call 38 (.cons (.var 0) (.cons (.var 1) (.cons (.var 2) .nil)))) (.const (.int 0))))⟩
/-- slots: 0 coefficients, 1 bounds, 2 test, 3 facts, 4 own -/
def p_numbers_told : Fn := ⟨3, 5, (.seq (.expr (.call 169 (.cons (.tup (.cons (.var 2) .nil)) .nil)))
    (.seq (.asg 3 (.call 35 (.cons (.var 0) (.cons (.var 1) .nil))))
    (.ret (.comp (.var 4) (.name 4) (.call 114 (.cons (.var 3) .nil)) (.cmp .eq (.idx (.call 37 (.cons (.var 3) (.cons (.var 4) .nil))) (.const (.int 0))) (.var 2))))))⟩
/-- slots: 0 coefficients, 1 bounds, 2 tests, 3 row, 4 test -/
def p_are_enough : Fn := ⟨3, 5, (.seq (.expr (.call 169 (.cons (.var 2) .nil)))
    (.ret (.bcall .all (.cons (.comp (.bcall .any (.cons (.comp (.inv false (.var 4) 3) (.name 4) (.var 2) (.const (.bool true))) .nil)) (.name 3) (.call 115 (.cons (.var 0) (.cons (.var 1) .nil))) (.const (.bool true))) .nil))))⟩
/-- slots: 0 coefficients, 1 bounds, 2 tests, 3 facts, 4 found, 5 own, 6 test -/
def p_false_alarms : Fn := ⟨3, 7, (.seq (.expr (.call 169 (.cons (.var 2) .nil)))
    (.seq (.asg 3 (.call 35 (.cons (.var 0) (.cons (.var 1) .nil))))
    (.seq (.asg 4 (.comp (.var 5) (.name 5) (.call 114 (.cons (.var 3) .nil)) (.cmp .notin (.var 5) (.idxv 3 (.const (.str "sums"))))))
    (.ret (.comp (.var 5) (.name 5) (.var 4) (.cmp .notin (.const (.str "no")) (.comp (.call 36 (.cons (.var 3) (.cons (.var 5) (.cons (.var 6) .nil)))) (.name 6) (.var 2) (.const (.bool true)))))))))⟩
/-- slots: 0 coefficients, 1 bounds, 2 low, 3 high, 4 own -/
def p_sums_between : Fn := ⟨4, 5, (.ret (.comp (.var 4) (.name 4) (.call 8 (.cons (.var 0) (.cons (.var 1) .nil))) (.chain .le .le (.var 2) (.var 4) (.var 3))))⟩
/-- slots: 0 tin, 1 many_so, 2 k -/
def p_law_lot : Fn := ⟨1, 3, (.seq (.asg 1 (.callio 43 0 (.cons (.const (.int 3)) .nil)))
    (.ret (.tup (.cons (.tuple (.comp (.bin .mul (.bin .add (.const (.int 1)) (.callio 43 0 (.cons (.const (.int 10)) .nil))) (.callio 87 0 (.cons (.lst (.cons (.const (.int 1)) (.cons (.neg (.const (.int 1))) .nil))) .nil))) (.name 2) (.range (.cons (.var 1) .nil)) (.const (.bool true)))) (.cons (.tuple (.comp (.bin .add (.const (.int 1)) (.callio 43 0 (.cons (.const (.int 5)) .nil))) (.name 2) (.range (.cons (.var 1) .nil)) (.const (.bool true)))) .nil)))))⟩
/-- slots: 0 a, 1 b, 2 k -/
def p_law_contrary : Fn := ⟨2, 3, (.ret (.idx (.comp (.var 2) (.name 2) (.range (.cons (.var 1) .nil)) (.cmp .eq (.bin .mod (.bin .mul (.var 0) (.var 2)) (.var 1)) (.bin .mod (.const (.int 1)) (.var 1)))) (.const (.int 0))))⟩
/-- slots: 0 tin, 1 row_so, 2 top_so, 3 half_so, 4 mixed_so, 5 got, 6 rows_so, 7 k, 8 place_so, 9 size_so, 10 leasts_so, 11 own -/
def p_law_told_right : Fn := ⟨3, 12, (.seq (.asg 3 (.bin .fdiv (.bin .add (.var 2) (.const (.int 1))) (.const (.int 2))))
    (.seq (.asg 4 (.tuple (.comp (.bin .mul (.var 11) (.callio 87 0 (.cons (.lst (.cons (.const (.int 1)) (.cons (.neg (.const (.int 1))) .nil))) .nil))) (.name 11) (.callio 45 0 (.cons (.list (.var 1)) (.cons (.const (.int 3)) .nil))) (.const (.bool true)))))
    (.seq (.asg 5 (.lst (.cons (.call 98 (.cons (.var 4) .nil)) (.cons (.call 97 (.cons (.var 4) .nil)) (.cons (.call 100 (.cons (.var 4) .nil)) (.cons (.call 101 (.cons (.var 4) .nil)) (.cons (.call 78 (.cons (.var 4) .nil)) .nil)))))))
    (.seq (.ite (.not (.call 46 (.cons (.var 5) (.cons (.lst (.cons (.var 2) (.cons (.var 3) (.cons (.const (.bool true)) (.cons (.bin .mul (.const (.int 2)) (.var 3)) (.cons (.bin .add (.bin .mul (.const (.int 2)) (.var 2)) (.bcall .max (.cons (.var 1) .nil))) .nil)))))) .nil))))
    (.ret (.const (.bool false)))
    .skip)
    (.seq (.par [6, 7] (.cons (.call 107 (.cons (.var 1) (.cons (.bin .add (.var 2) (.bcall .max (.cons (.var 1) .nil))) .nil))) (.cons (.callio 43 0 (.cons (.bin .add (.var 2) (.const (.int 1))) .nil)) .nil)))
    (.seq (.ite (.or (.idxv 6 (.var 2)) (.or (.cmp .ne (.comp (.var 11) (.name 11) (.slice (.var 6) (.bin .add (.var 2) (.const (.int 1))) .nil) (.not (.var 11))) (.lst .nil)) (.cmp .eq (.idxv 6 (.var 7)) (.idxv 6 (.bin .sub (.var 2) (.var 7))))))
    (.ret (.const (.bool false)))
    .skip)
    (.seq (.asg 5 (.lst (.cons (.call 96 (.cons (.var 4) (.cons (.var 7) .nil))) (.cons (.call 82 (.cons (.var 1) (.cons (.var 7) .nil))) (.cons (.comp (.var 11) (.name 11) (.call 86 (.cons (.var 1) (.cons (.const (.int 0)) (.cons (.bcall .min (.cons (.lst (.cons (.var 2) (.cons (.const (.int 900)) .nil))) .nil)) .nil)))) (.cmp .gt (.var 11) (.const (.int 0)))) .nil)))))
    (.seq (.ite (.not (.call 46 (.cons (.var 5) (.cons (.lst (.cons (.idxv 6 (.var 7)) (.cons (.ite (.idxv 6 (.var 7)) (.const .none) (.const (.str "gap"))) (.cons (.comp (.var 11) (.name 11) (.range (.cons (.bin .add (.bcall .min (.cons (.lst (.cons (.var 2) (.cons (.const (.int 900)) .nil))) .nil)) (.const (.int 1))) .nil)) (.not (.idxv 6 (.var 11)))) .nil)))) .nil))))
    (.ret (.const (.bool false)))
    .skip)
    (.seq (.asg 8 (.callio 43 0 (.cons (.const (.int 3)) .nil)))
    (.seq (.asg 9 (.bcall .abs (.cons (.idxv 4 (.var 8)) .nil)))
    (.seq (.asg 10 (.comp (.bcall .min (.cons (.comp (.var 11) (.name 11) (.range (.cons (.lenv 6) .nil)) (.and (.idxv 6 (.var 11)) (.cmp .eq (.bin .mod (.var 11) (.var 9)) (.var 7)))) .nil)) (.name 7) (.range (.cons (.var 9) .nil)) (.const (.bool true))))
    (.seq (.ite (.or (.not (.call 46 (.cons (.comp (.call 99 (.cons (.var 4) (.cons (.var 8) (.cons (.var 11) .nil)))) (.name 11) (.range (.cons (.var 9) .nil)) (.const (.bool true))) (.cons (.var 10) .nil)))) (.cmp .ne (.bin .sub (.bcall .max (.cons (.var 10) .nil)) (.var 9)) (.var 2)))
    (.ret (.const (.bool false)))
    .skip)
    (.ret (.call 46 (.cons (.lst (.cons (.call 104 (.cons (.var 4) .nil)) (.cons (.call 105 (.cons (.var 4) .nil)) .nil))) (.cons (.lst (.cons (.tup .nil) (.cons (.tuple (.bcall .sorted (.cons (.var 1) .nil))) .nil))) .nil))))))))))))))))⟩
/-- slots: 0 coefficients, 1 bounds, 2 thing, 3 own, 4 least -/
def p_is_unsettled_above : Fn := ⟨3, 5, (.seq (.ite (.or (.not (.call 109 (.cons (.var 2) (.cons (.lenv 0) (.cons (.const (.int 1)) .nil))))) (.cmp .gt (.call 77 (.cons (.var 0) (.cons (.var 2) .nil))) (.const (.int 4000))))
    (.ret (.const (.bool false)))
    .skip)
    (.ret (.and (.bcall .all (.cons (.comp (.cmp .ge (.var 3) (.var 4)) (.tup (.cons (.name 3) (.cons (.name 4) .nil))) (.zip (.cons (.var 2) (.cons (.var 1) .nil))) (.const (.bool true))) .nil)) (.not (.call 34 (.cons (.var 0) (.cons (.var 2) .nil)))))))⟩
/-- slots: 0 coefficients, 1 low -/
def b_settled_from_1 : S := (.asg 1 (.bin .add (.var 1) (.const (.int 1))))
def p_settled_from : Fn := ⟨1, 2, (.seq (.asg 1 (.const (.int 1)))
    (.seq (.while_ (.not (.call 81 (.cons (.var 0) (.cons (.bin .mul (.tup (.cons (.var 1) .nil)) (.lenv 0)) .nil)))) b_settled_from_1)
    (.ret (.var 1))))⟩
/-- slots: 0 matter, 1 bit -/
def p_law_lists : Fn := ⟨1, 2, (.ret (.ite (.isi (.var 0) [.list, .tuple]) (.comp (.call 181 (.cons (.var 1) .nil)) (.name 1) (.var 0) (.const (.bool true))) (.var 0)))⟩
/-- slots: 0 a, 1 b, 2 m, 3 n -/
def p_law_settled : Fn := ⟨4, 4, (.ret (.and (.not (.and (.cmp .le (.var 2) (.bin .sub (.var 1) (.const (.int 2)))) (.cmp .ge (.var 3) (.var 0)))) (.not (.and (.cmp .le (.var 3) (.bin .sub (.var 0) (.const (.int 2)))) (.cmp .ge (.var 2) (.var 1))))))⟩
end Q

end
section
set_option Elab.async false
set_option linter.all false
set_option maxRecDepth 100000
/-! Q: steps of the evaluator by lemma. -/
namespace QS
open PySem (Str)
open Q
/-! ### slots -/
/-- not lent -/
def nl : Slot → Bool
  | some (_, .ln) => false
  | _ => true
@[simp] theorem nl_none : nl none = true := by simp only [nl]
@[simp] theorem nl_sh (v : Val) : nl (some (v, .sh)) = true := by simp only [nl]
@[simp] theorem nl_ow (v : Val) : nl (some (v, .ow)) = true := by simp only [nl]
theorem bind_name {env : Env} {i : Nat} {v : Val} (h : nl (eget env i) = true) : bindT (.name i) v env = some (eset env i (some (v, .sh))) := by
  unfold bindT
  split
  · rename_i e; rw [e] at h; cases h
  · rfl
@[simp] theorem bind_tup {env : Env} {t : T} {l : List Val} : bindT (.tup t) (.tup l) env = bindT.bindTs t l env := rfl
@[simp] theorem binds_nil {env : Env} : bindT.bindTs .nil [] env = some env := rfl
@[simp] theorem binds_cons {env : Env} {h t : T} {v : Val} {l : List Val} : bindT.bindTs (.cons h t) (v :: l) env = match bindT h v env with
    | some env => bindT.bindTs t l env
    | none => none := rfl
theorem put_at {env : Env} {i : Nat} {r : Res} (h : nl (eget env i) = true) : put env i r = some (eset env i (some (r.1, if r.2 then .ow else .sh))) := by
  unfold put
  split
  · rename_i e; rw [e] at h; cases h
  · rfl
@[simp] theorem puts_nil {env : Env} : puts [] [] env = some env := rfl
@[simp] theorem puts_cons {env : Env} {i : Nat} {is : List Nat} {r : Res} {rs : List Res} : puts (i :: is) (r :: rs) env = match put env i r with
    | some env => puts is rs env
    | none => none := rfl
@[simp] theorem nxt_some {env : Env} : nxt (some env) = some (.nx, env) := rfl
@[simp] theorem boolR_some {b k : Bool} {env : Env} : boolR (some ((.bool b, k), env)) = some (b, env) := rfl
@[simp] theorem mk_some {x : Res} {env : Env} : mk (some x) env = some (x, env) := rfl
@[simp] theorem mkB_some {x : Bool} {env : Env} : mkB (some x) env = some ((.bool x, false), env) := rfl
@[simp] theorem mkV_some {x : Val} {env : Env} : mkV (some x) env = some ((x, false), env) := rfl
@[simp] theorem vals_nil : vals [] = [] := rfl
@[simp] theorem vals_cons {r : Res} {l : List Res} : vals (r :: l) = r.1 :: vals l := rfl
/-! ### calls -/
def fin (r : Option (Flow × Env)) : Option (Res × Val) := match r with
  | some (.ret r, _) => some (r, .none)
  | some (.nx, _) => some ((.none, false), .none)
  | _ => none
def finio (r : Option (Flow × Env)) : Option (Res × Val) := match r with
  | some (.ret r, env) => (match eget env 0 with | some (v, .ln) => some (r, v) | _ => none)
  | some (.nx, env) => (match eget env 0 with | some (v, .ln) => some ((.none, false), v) | _ => none)
  | _ => none
@[simp] theorem fin_ret {r : Res} {env : Env} : fin (some (.ret r, env)) = some (r, .none) := rfl
@[simp] theorem fin_nx {env : Env} : fin (some (.nx, env)) = some ((.none, false), .none) := rfl
@[simp] theorem finio_ret {r : Res} {v : Val} {env : Env} : finio (some (.ret r, some (v, .ln) :: env)) = some (r, v) := rfl
@[simp] theorem finio_nx {v : Val} {env : Env} : finio (some (.nx, some (v, .ln) :: env)) = some ((.none, false), v) := rfl
theorem cl_call {F : Nat → Option Fn} {n f : Nat} {d : Fn} {args : List Val} (hF : F f = some d) (hl : args.length = d.np) :
    clN F (n + 1) f false args = fin (ex (clN F n) d.body (args.map (fun v => some (v, .sh)) ++ fresh (d.ns - d.np))) := by
  simp only [clN, hF, runF, hl, if_true]
  have e : entry d false args = args.map (fun v => some (v, Fl.sh)) ++ fresh (d.ns - d.np) := by
    unfold entry; cases args <;> rfl
  rw [e]
  unfold fin lent
  cases h : ex (clN F n) d.body (args.map (fun v => some (v, Fl.sh)) ++ fresh (d.ns - d.np)) with
  | none => rfl
  | some p =>
    obtain ⟨fl, env⟩ := p
    cases fl <;> rfl
theorem cl_callio {F : Nat → Option Fn} {n f : Nat} {d : Fn} {v : Val} {args : List Val} (hF : F f = some d) (hl : args.length + 1 = d.np) :
    clN F (n + 1) f true (v :: args) = finio (ex (clN F n) d.body (some (v, .ln) :: args.map (fun v => some (v, .sh)) ++ fresh (d.ns - d.np))) := by
  simp only [clN, hF, runF, List.length_cons, hl, if_true]
  have e : entry d true (v :: args) = some (v, .ln) :: args.map (fun v => some (v, Fl.sh)) ++ fresh (d.ns - d.np) := rfl
  rw [e]
  unfold finio lent
  cases h : ex (clN F n) d.body (some (v, .ln) :: args.map (fun v => some (v, Fl.sh)) ++ fresh (d.ns - d.np)) with
  | none => rfl
  | some p =>
    obtain ⟨fl, env⟩ := p
    cases fl <;> first | rfl | (simp only [if_true]; split <;> (rename_i q; split at q <;> simp_all))
/-! ### loops -/
def forS (cl : Cl) (t : T) (b : S) (l : List Val) (env : Env) : Option (Flow × Env) := forLoop t (fun env => ex cl b env) l env
def whileS (cl : Cl) (c : E) (b : S) (n : Nat) (env : Env) : Option (Flow × Env) := whileLoop (fun env => boolR (ev cl c env)) (fun env => ex cl b env) n env
section
variable {cl : Cl} {env : Env}
@[simp] theorem ex_for {t : T} {it : E} {b : S} : ex cl (.for_ t it b) env = match itR (ev cl it env) with
    | some (l, env) => forS cl t b l env
    | none => none := by rw [ex]; first | done | rfl
@[simp] theorem ex_while {c : E} {b : S} : ex cl (.while_ c b) env = whileS cl c b 1000000000 env := by rw [ex]; first | done | rfl
@[simp] theorem ex_skip : ex cl .skip env = some (.nx, env) := by rw [ex]; first | done | rfl
@[simp] theorem ex_fail : ex cl .fail env = none := by rw [ex]; first | done | rfl
@[simp] theorem ex_brk : ex cl .brk env = some (.brk, env) := by rw [ex]; first | done | rfl
@[simp] theorem ex_cont : ex cl .cont env = some (.ct, env) := by rw [ex]; first | done | rfl
@[simp] theorem ex_seq {a b : S} : ex cl (.seq a b) env = match ex cl a env with
    | some (.nx, env) => ex cl b env
    | r => r := by rw [ex]; first | done | rfl
@[simp] theorem ex_expr {e : E} : ex cl (.expr e) env = match ev cl e env with
    | some (_, env) => some (.nx, env)
    | none => none := by rw [ex]; first | done | rfl
@[simp] theorem ex_asg {i : Nat} {e : E} : ex cl (.asg i e) env = match ev cl e env with
    | some (r, env) => nxt (put env i r)
    | none => none := by rw [ex]; first | done | rfl
@[simp] theorem ex_asgT {t : T} {e : E} : ex cl (.asgT t e) env = match ev cl e env with
    | some (r, env) => nxt (bindT t r.1 env)
    | none => none := by rw [ex]; first | done | rfl
@[simp] theorem ex_par {is : List Nat} {e : E} : ex cl (.par is e) env = match evs cl e env with
    | some (l, env) => nxt (puts is l env)
    | none => none := by rw [ex]; first | done | rfl
@[simp] theorem ex_ite {c : E} {a b : S} : ex cl (.ite c a b) env = match boolR (ev cl c env) with
    | some (true, env) => ex cl a env
    | some (false, env) => ex cl b env
    | none => none := by rw [ex]; first | done | rfl
@[simp] theorem ex_app {i : Nat} {e : E} : ex cl (.app i e) env = if hasL env i then match ev cl e env with
      | some (r, env) => nxt (chg env i (appV r.1))
      | none => none
    else none := by rw [ex]; first | done | rfl
@[simp] theorem ex_ext {i : Nat} {e : E} : ex cl (.ext i e) env = if hasL env i then match ev cl e env with
      | some ((.lst m, _), env) => nxt (chg env i (extV m))
      | _ => none
    else none := by rw [ex]; first | done | rfl
@[simp] theorem ex_ret_var {i : Nat} : ex cl (.ret (.var i)) env = match eget env i with
      | some (v, .sh) => some (.ret (v, false), env)
      | some (v, .ow) => some (.ret (v, true), eset env i none)
      | _ => none := by rw [ex]; first | done | rfl
/-- not a name -/
def nv : E → Bool
  | .var _ => false
  | _ => true
theorem ex_ret {e : E} (h : nv e = true) : ex cl (.ret e) env = match ev cl e env with
      | some (r, env) => some (.ret r, env)
      | none => none := by
  cases e <;> first | rfl | cases h
@[simp] theorem ex_aug {i : Nat} {o : Op} {e : E} : ex cl (.aug i o e) env = match eget env i with
    | some (.int x, .sh) => match ev cl e env with
      | some ((.int y, _), env) => (match binI o x y with | some z => some (.nx, eset env i (some (.int z, .sh))) | none => none)
      | _ => none
    | _ => none := by rw [ex]; first | done | rfl
@[simp] theorem ex_seti {i : Nat} {ix e : E} : ex cl (.seti i ix e) env = match ev cl e env with
    | some (r, env) => if has env i then match ev cl ix env with
        | some (k, env) => nxt (chg env i fun v => setV v k.1 r.1)
        | none => none
      else none
    | none => none := by rw [ex]; first | done | rfl
@[simp] theorem ex_augi {i : Nat} {ix e : E} {o : Op} : ex cl (.augi i ix o e) env = if has env i then match ev cl ix env with
      | some (k, env) => match eget env i with
        | some (v, _) => match idxV v k.1 with
          | some (.int x) => match ev cl e env with
            | some ((.int y, _), env) => (match binI o x y with | some z => nxt (chg env i fun v => setV v k.1 (.int z)) | none => none)
            | _ => none
          | _ => none
        | none => none
      | none => none
    else none := by rw [ex]; first | done | rfl
@[simp] theorem ex_seti2 {i j : Nat} {ix jx e : E} : ex cl (.seti2 i ix j jx e) env = match ev cl e env with
    | some ((.tup [a, b], _), env) => if has env i then match ev cl ix env with
        | some (k, env) => match chg env i fun v => setV v k.1 a with
          | some env => if has env j then match ev cl jx env with
              | some (k, env) => nxt (chg env j fun v => setV v k.1 b)
              | none => none
            else none
          | none => none
        | none => none
      else none
    | _ => none := by rw [ex]; first | done | rfl
/-! ### expressions -/
@[simp] theorem ev_var {i : Nat} : ev cl (.var i) env = readV env i := by rw [ev]; first | done | rfl
@[simp] theorem ev_const {v : Val} : ev cl (.const v) env = some ((v, false), env) := by rw [ev]; first | done | rfl
@[simp] theorem ev_bin {o : Op} {a b : E} : ev cl (.bin o a b) env = match ev cl a env with
    | some (x, env) => match ev cl b env with
      | some (y, env) => mk (bin o x.1 y.1) env
      | none => none
    | none => none := by rw [ev]; first | done | rfl
@[simp] theorem ev_neg {a : E} : ev cl (.neg a) env = match ev cl a env with
    | some ((.int i, _), env) => some ((.int (-i), false), env)
    | _ => none := by rw [ev]; first | done | rfl
@[simp] theorem ev_not {a : E} : ev cl (.not a) env = match boolR (ev cl a env) with
    | some (c, env) => some ((.bool (!c), false), env)
    | none => none := by rw [ev]; first | done | rfl
@[simp] theorem ev_and {a b : E} : ev cl (.and a b) env = match boolR (ev cl a env) with
    | some (true, env) => (match boolR (ev cl b env) with | some (c, env) => some ((.bool c, false), env) | none => none)
    | some (false, env) => some ((.bool false, false), env)
    | none => none := by rw [ev]; first | done | rfl
@[simp] theorem ev_or {a b : E} : ev cl (.or a b) env = match boolR (ev cl a env) with
    | some (true, env) => some ((.bool true, false), env)
    | some (false, env) => (match boolR (ev cl b env) with | some (c, env) => some ((.bool c, false), env) | none => none)
    | none => none := by rw [ev]; first | done | rfl
@[simp] theorem ev_orV {a b : E} : ev cl (.orV a b) env = match ev cl a env with
    | some ((.lst l, f), env) => if l.isEmpty then (match ev cl b env with | some ((.lst m, f), env) => some ((.lst m, f), env) | _ => none) else some ((.lst l, f), env)
    | _ => none := by rw [ev]; first | done | rfl
@[simp] theorem ev_cmp {c : Cm} {a b : E} : ev cl (.cmp c a b) env = match ev cl a env with
    | some (x, env) => match ev cl b env with
      | some (y, env) => mkB (cmpv c x.1 y.1) env
      | none => none
    | none => none := by rw [ev]; first | done | rfl
@[simp] theorem ev_chain {c d : Cm} {a b e : E} : ev cl (.chain c d a b e) env = match ev cl a env with
    | some (x, env) => match ev cl b env with
      | some (y, env) => match cmpv c x.1 y.1 with
        | some true => (match ev cl e env with | some (z, env) => mkB (cmpv d y.1 z.1) env | none => none)
        | some false => some ((.bool false, false), env)
        | none => none
      | none => none
    | none => none := by rw [ev]; first | done | rfl
@[simp] theorem ev_inv {n : Bool} {a : E} {i : Nat} : ev cl (.inv n a i) env = match ev cl a env with
    | some (x, env) => match eget env i with
      | some (v, _) => (match inV x.1 v with | some k => some ((.bool (if n then !k else k), false), env) | none => none)
      | none => none
    | none => none := by rw [ev]; first | done | rfl
@[simp] theorem ev_ite {c a b : E} : ev cl (.ite c a b) env = match boolR (ev cl c env) with
    | some (true, env) => ev cl a env
    | some (false, env) => ev cl b env
    | none => none := by rw [ev]; first | done | rfl
@[simp] theorem ev_tup {a : E} : ev cl (.tup a) env = match evs cl a env with
    | some (l, env) => if okLen l.length then some ((.tup (vals l), false), env) else none
    | none => none := by rw [ev]; first | done | rfl
@[simp] theorem ev_lst {a : E} : ev cl (.lst a) env = match evs cl a env with
    | some (l, env) => if okLen l.length then some ((.lst (vals l), true), env) else none
    | none => none := by rw [ev]; first | done | rfl
@[simp] theorem ev_dict {a : E} : ev cl (.dict a) env = match evs cl a env with
    | some (l, env) => (match dispOf (vals l) [] [] with | some (ks, vs) => some ((.dict ks vs, true), env) | none => none)
    | none => none := by rw [ev]; first | done | rfl
@[simp] theorem ev_idx {a b : E} : ev cl (.idx a b) env = match ev cl a env with
    | some (x, env) => match ev cl b env with
      | some (y, env) => mkV (idxV x.1 y.1) env
      | none => none
    | none => none := by rw [ev]; first | done | rfl
@[simp] theorem ev_idxv {i : Nat} {b : E} : ev cl (.idxv i b) env = if has env i then match ev cl b env with
      | some (y, env) => match eget env i with
        | some (v, _) => mkV (idxV v y.1) env
        | none => none
      | none => none
    else none := by rw [ev]; first | done | rfl
@[simp] theorem ev_slice {a lo hi : E} : ev cl (.slice a lo hi) env = match ev cl a env with
    | some (x, env) => match bndR lo (ev cl lo env) env with
      | some (l, env) => match bndR hi (ev cl hi env) env with
        | some (h, env) => mk (sliceV x.1 l h) env
        | none => none
      | none => none
    | none => none := by rw [ev]; first | done | rfl
@[simp] theorem ev_rev {a : E} : ev cl (.rev a) env = match ev cl a env with
    | some ((.lst l, _), env) => some ((.lst l.reverse, true), env)
    | _ => none := by rw [ev]; first | done | rfl
@[simp] theorem ev_lenv {i : Nat} : ev cl (.lenv i) env = match eget env i with
    | some (v, _) => mk (bLen [v]) env
    | none => none := by rw [ev]; first | done | rfl
@[simp] theorem ev_call {f : Nat} {a : E} : ev cl (.call f a) env = match evs cl a env with
    | some (l, env) => (match cl f false (vals l) with | some (r, _) => some (r, env) | none => none)
    | none => none := by rw [ev]; first | done | rfl
@[simp] theorem ev_callio {f i : Nat} {a : E} : ev cl (.callio f i a) env = if has env i then match evs cl a env with
      | some (l, env) => match eget env i with
        | some (v, .sh) => none
        | some (v, k) => (match cl f true (v :: vals l) with | some (r, v') => some (r, eset env i (some (v', k))) | none => none)
        | none => none
      | none => none
    else none := by rw [ev]; first | done | rfl
@[simp] theorem ev_bcall {b : B} {a : E} : ev cl (.bcall b a) env = match evs cl a env with
    | some (l, env) => mk (bcallV b (vals l)) env
    | none => none := by rw [ev]; first | done | rfl
theorem ev_list {a : E} (h : isZipE a = false) : ev cl (.list a) env = match liR (ev cl a env) with
    | some (l, env) => some ((.lst l, true), env)
    | none => none := by rw [ev, h]; first | done | rfl
theorem ev_tuple {a : E} (h : isZipE a = false) : ev cl (.tuple a) env = match liR (ev cl a env) with
    | some (l, env) => some ((.tup l, false), env)
    | none => none := by rw [ev, h]; first | done | rfl
@[simp] theorem ev_range {a : E} : ev cl (.range a) env = match evs cl a env with
    | some (l, env) => (match rangeV (vals l) with | some m => some ((.lst m, false), env) | none => none)
    | none => none := by rw [ev]; first | done | rfl
@[simp] theorem ev_enum {a : E} : ev cl (.enum a) env = match ev cl a env with
    | some ((.lst m, _), env) => some ((.lst (enumL 0 m), false), env)
    | _ => none := by rw [ev]; first | done | rfl
@[simp] theorem ev_zip {a : E} : ev cl (.zip a) env = match evs cl a env with
    | some (l, env) => (match zipV (vals l) with | some m => some ((.lst m, false), env) | none => none)
    | none => none := by rw [ev]; first | done | rfl
@[simp] theorem ev_items {a : E} : ev cl (.items a) env = match ev cl a env with
    | some ((.dict ks vs, _), env) => some ((.lst (itemsV ks vs), false), env)
    | _ => none := by rw [ev]; first | done | rfl
@[simp] theorem ev_isi {a : E} {ts : List Ty} : ev cl (.isi a ts) env = match ev cl a env with
    | some (x, env) => mkB (isTys ts x.1) env
    | none => none := by rw [ev]; first | done | rfl
@[simp] theorem ev_mcall {m : M} {r a : E} : ev cl (.mcall m r a) env = match ev cl r env with
    | some (x, env) => match evs cl a env with
      | some (l, env) => mk (mcallV m x.1 (vals l)) env
      | none => none
    | none => none := by rw [ev]; first | done | rfl
@[simp] theorem ev_getv {i : Nat} {a : E} : ev cl (.getv i a) env = if hasD env i then match evs cl a env with
      | some (l, env) => match eget env i with
        | some (v, _) => mk (mGet v (vals l)) env
        | none => none
      | none => none
    else none := by rw [ev]; first | done | rfl
@[simp] theorem ev_popv {i : Nat} {a : E} : ev cl (.popv i a) env = if hasL env i then match evs cl a env with
      | some (l, env) => match eget env i with
        | some (_, .sh) => none
        | some (v, k) => (match popV v (vals l) with | some (x, v') => some ((x, false), eset env i (some (v', k))) | none => none)
        | none => none
      | none => none
    else none := by rw [ev]; first | done | rfl
@[simp] theorem evs_nil : evs cl .nil env = some ([], env) := by rw [evs]; first | done | rfl
@[simp] theorem evs_cons {h t : E} : evs cl (.cons h t) env = match ev cl h env with
    | some (x, env) => match evs cl t env with
      | some (l, env) => some (x :: l, env)
      | none => none
    | none => none := by rw [evs]; first | done | rfl
@[simp] theorem bnd_nil {r : Option (Res × Env)} : bndR .nil r env = some (none, env) := rfl
theorem bnd_int {e : E} {i : Int} {k : Bool} {env' : Env} (h : (match e with | .nil => false | _ => true) = true) : bndR e (some ((.int i, k), env')) env = some (some i, env') := by
  cases e <;> first | rfl | cases h
end
@[simp] theorem readV_sh {env : Env} {i : Nat} {v : Val} (h : eget env i = some (v, .sh)) : readV env i = some ((v, false), env) := by unfold readV; rw [h]
theorem readV_ow {env : Env} {i : Nat} {v : Val} (h : eget env i = some (v, .ow)) : readV env i = some ((v, false), eset env i (some (v, .sh))) := by unfold readV; rw [h]
/-- a walk, by what holds behind each turn -/
theorem for_inv {cl : Cl} {α β : Type} {t : T} {b : S} (enc : α → Val) (g : β → α → β) (R : β → Env → Prop) :
    ∀ (l : List α) (x : β) (env : Env), R x env → (∀ x a env, a ∈ l → R x env → ∃ env1, bindT t (enc a) env = some env1 ∧ ∃ env2, (ex cl b env1 = some (.nx, env2) ∨ ex cl b env1 = some (.ct, env2)) ∧ R (g x a) env2) →
    ∃ env', forS cl t b (l.map enc) env = some (.nx, env') ∧ R (l.foldl g x) env'
  | [], x, env, h, _ => ⟨env, rfl, h⟩
  | a :: l, x, env, h, st => by
    obtain ⟨env1, h1, env2, h2, h3⟩ := st x a env (List.mem_cons_self ..) h
    obtain ⟨env', e, r⟩ := for_inv (cl := cl) enc g R l (g x a) env2 h3 fun b a env m => st b a env (List.mem_cons_of_mem _ m)
    refine ⟨env', ?_, r⟩
    unfold forS at e ⊢
    rw [List.map_cons, forLoop, h1]
    rcases h2 with h2 | h2 <;> simp only [h2, e]
/-- a while, by a measure -/
theorem while_inv {cl : Cl} {β : Type} {c : E} {f : S} (R : β → Env → Prop) (m : β → Nat) (p : β → Bool) (g : β → β)
    (st : ∀ b env, R b env → ∃ env1, boolR (ev cl c env) = some (p b, env1) ∧ (p b = true → m (g b) < m b ∧ ∃ env2, (ex cl f env1 = some (.nx, env2) ∨ ex cl f env1 = some (.ct, env2)) ∧ R (g b) env2) ∧ (p b = false → R b env1)) :
    ∀ (n : Nat) (b : β) (env : Env), m b < n → R b env → ∃ b' env', whileS cl c f n env = some (.nx, env') ∧ R b' env' ∧ p b' = false ∧ ∃ k, b' = Nat.repeat g k b
  | 0, b, env, h, _ => absurd h (Nat.not_lt_zero _)
  | n + 1, b, env, h, r => by
    obtain ⟨env1, h1, ht, hf⟩ := st b env r
    unfold whileS whileLoop
    rw [h1]
    cases e : p b with
    | false => exact ⟨b, env1, rfl, hf e, e, 0, rfl⟩
    | true =>
      obtain ⟨hd, env2, h2, r2⟩ := ht e
      obtain ⟨b', env', e1, r', pf, k, ek⟩ := while_inv R m p g st n (g b) env2 (by omega) r2
      have er : ∀ k (b : β), Nat.repeat g (k + 1) b = Nat.repeat g k (g b) := fun k => by
        induction k with
        | zero => intro b; rfl
        | succ k ih => intro b; show g (Nat.repeat g (k + 1) b) = g (Nat.repeat g k (g b)); rw [ih]
      refine ⟨b', env', ?_, r', pf, k + 1, by rw [er]; exact ek⟩
      unfold whileS at e1
      rcases h2 with h2 | h2 <;> simp only [h2, e1]
/-- a while, by an invariant alone -/
theorem while_ok {cl : Cl} {c : E} {f : S} (R : Nat → Env → Prop) (D : Env → Prop)
    (st : ∀ m env, R m env → (∃ env1, boolR (ev cl c env) = some (false, env1) ∧ D env1) ∨ (∃ env1, boolR (ev cl c env) = some (true, env1) ∧ ∃ m' env2, m' < m ∧ (ex cl f env1 = some (.nx, env2) ∨ ex cl f env1 = some (.ct, env2)) ∧ R m' env2)) :
    ∀ (n m : Nat) (env : Env), m < n → R m env → ∃ env', whileS cl c f n env = some (.nx, env') ∧ D env'
  | 0, m, env, h, _ => absurd h (Nat.not_lt_zero _)
  | n + 1, m, env, h, r => by
    unfold whileS whileLoop
    rcases st m env r with ⟨env1, h1, d⟩ | ⟨env1, h1, m', env2, hm, h2, r2⟩
    · rw [h1]; exact ⟨env1, rfl, d⟩
    · rw [h1]
      obtain ⟨env', e1, d⟩ := while_ok R D st n m' env2 (by omega) r2
      refine ⟨env', ?_, d⟩
      unfold whileS at e1
      rcases h2 with h2 | h2 <;> simp only [h2, e1]
/-- a comprehension -/
theorem comp_loop {α : Type} {vs : List Nat} {t : T} {c : Env → Option (Bool × Env)} {f : Env → Option (Res × Env)} (enc : α → Val) (p : α → Bool) (g : α → Val) (R : Env → Prop) :
    ∀ (l : List α) (env : Env) (acc : List Val), R env → (∀ a ∈ l, ∀ env, R env → ∃ env1, bindT t (enc a) (clearE vs env) = some env1 ∧ ∃ env2, c env1 = some (p a, env2) ∧ (p a = false → R env2) ∧ (p a = true → ∃ b env3, f env2 = some ((g a, b), env3) ∧ R env3)) →
    ∃ env', compLoop vs t c f (l.map enc) env acc = some (acc ++ (l.filter p).map g, env') ∧ R env'
  | [], env, acc, r, _ => ⟨env, by simp [compLoop], r⟩
  | a :: l, env, acc, r, st => by
    obtain ⟨env1, h1, env2, h2, hf, ht⟩ := st a (List.mem_cons_self ..) env r
    have st' := fun x m => st x (List.mem_cons_of_mem a m)
    rw [List.map_cons, compLoop, h1]
    simp only [h2]
    cases e : p a with
    | false =>
      obtain ⟨env', e', r'⟩ := comp_loop enc p g R l env2 acc (hf e) st'
      exact ⟨env', by simp only [e', List.filter_cons, e, Bool.false_eq_true, if_false], r'⟩
    | true =>
      obtain ⟨b, env3, h3, r3⟩ := ht e
      obtain ⟨env', e', r'⟩ := comp_loop enc p g R l env3 (acc ++ [g a]) r3 st'
      refine ⟨env', ?_, r'⟩
      simp only [h3, e', List.filter_cons, e, if_true, List.map_cons, List.append_assoc, List.singleton_append]
theorem ev_comp {cl : Cl} {α : Type} {e : E} {t : T} {it c : E} {env env0 envF : Env} {l : List α} (enc : α → Val) (p : α → Bool) (g : α → Val) (R : Env → Prop) (hit : itR (ev cl it env) = some (l.map enc, env0)) (hno : noOwn (slotsT t) env0 = true) (h0 : R env0)
    (st : ∀ a ∈ l, ∀ env, R env → ∃ env1, bindT t (enc a) (clearE (slotsT t) env) = some env1 ∧ ∃ env2, boolR (ev cl c env1) = some (p a, env2) ∧ (p a = false → R env2) ∧ (p a = true → ∃ b env3, ev cl e env2 = some ((g a, b), env3) ∧ R env3))
    (bk : ∀ env, R env → backE env0 (slotsT t) env = envF) : ev cl (.comp e t it c) env = some ((.lst ((l.filter p).map g), true), envF) := by
  rw [ev, hit]
  simp only [hno, if_true]
  obtain ⟨env', e', r'⟩ := comp_loop (vs := slotsT t) (t := t) (c := fun env => boolR (ev cl c env)) (f := fun env => ev cl e env) enc p g R l env0 [] h0 st
  rw [e']
  simp only [List.nil_append, bk env' r']
/-! ### values -/
def intz (l : List Int) : List Val := l.map .int
/-- a list or tuple of numbers -/
def Sq (v : Val) (l : List Int) : Prop := v = .tup (intz l) ∨ v = .lst (intz l)
theorem Sq.it {v : Val} {l : List Int} (h : Sq v l) : itV v = some (l.map .int) := by rcases h with rfl | rfl <;> rfl
theorem Sq.seq {v : Val} {l : List Int} (h : Sq v l) : seqOf v = some (intz l) := by rcases h with rfl | rfl <;> rfl
@[simp] theorem asInts_ints : ∀ l : List Int, asInts (intz l) = some l
  | [] => rfl
  | i :: l => by show (match asInts (intz l) with | some l => some (i :: l) | none => none) = _; rw [asInts_ints l]
@[simp] theorem asInts_map (l : List Int) : asInts (l.map .int) = some l := asInts_ints l
theorem zip2_ints : ∀ l m : List Int, zip2 (intz l) (intz m) = (l.zip m).map fun q => .tup [.int q.1, .int q.2]
  | [], _ => by cases ‹List Int› <;> rfl
  | _ :: _, [] => rfl
  | a :: l, b :: m => by
    show Val.tup [.int a, .int b] :: zip2 (intz l) (intz m) = _
    rw [zip2_ints l m]; rfl
@[simp] theorem itR_some {v : Val} {k : Bool} {env : Env} {l : List Val} (h : itV v = some l) : itR (some ((v, k), env)) = some (l, env) := by
  show (match itV v with | some m => some (m, env) | none => none) = _
  rw [h]
theorem liR_of {v : Val} {k : Bool} {env : Env} {l : List Val} (h : liV v = some l) : liR (some ((v, k), env)) = some (l, env) := by
  show (match liV v with | some m => some (m, env) | none => none) = _
  rw [h]
@[simp] theorem itV_lst (l : List Val) : itV (.lst l) = some l := rfl
@[simp] theorem itV_tup (l : List Val) : itV (.tup l) = some l := rfl
@[simp] theorem liV_lst (l : List Val) : liV (.lst l) = some l := rfl
@[simp] theorem liV_tup (l : List Val) : liV (.tup l) = some l := rfl
end QS
namespace QS
open PySem (Str)
open Q
section
variable {cl : Cl} {env env1 env2 env0 : Env} {a b c e : E} {x y : Int} {k k' : Bool}
theorem okMul_l (h : x.natAbs < 18446744073709551616) : okMul x y = true := by unfold okMul; simp [h]
theorem okMul_r (h : y.natAbs < 18446744073709551616) : okMul x y = true := by unfold okMul; simp [h]
theorem ev_mul (h : okMul x y = true) (ha : ev cl a env = some ((.int x, k), env1)) (hb : ev cl b env1 = some ((.int y, k'), env2)) : ev cl (.bin .mul a b) env = some ((.int (x * y), false), env2) := by
  simp [ha, hb, bin, binI, h]
theorem ev_add (ha : ev cl a env = some ((.int x, k), env1)) (hb : ev cl b env1 = some ((.int y, k'), env2)) : ev cl (.bin .add a b) env = some ((.int (x + y), false), env2) := by
  simp [ha, hb, bin, binI]
theorem ev_sub (ha : ev cl a env = some ((.int x, k), env1)) (hb : ev cl b env1 = some ((.int y, k'), env2)) : ev cl (.bin .sub a b) env = some ((.int (x - y), false), env2) := by
  simp [ha, hb, bin, binI]
theorem ev_mod (h : y ≠ 0) (ha : ev cl a env = some ((.int x, k), env1)) (hb : ev cl b env1 = some ((.int y, k'), env2)) : ev cl (.bin .mod a b) env = some ((.int (x.fmod y), false), env2) := by
  simp [ha, hb, bin, binI, h]
theorem ev_fdiv (h : y ≠ 0) (h2 : y.natAbs < 1073741824) (ha : ev cl a env = some ((.int x, k), env1)) (hb : ev cl b env1 = some ((.int y, k'), env2)) : ev cl (.bin .fdiv a b) env = some ((.int (x.fdiv y), false), env2) := by
  simp [ha, hb, bin, binI, h, h2]
theorem ev_abs (ha : ev cl a env = some ((.int x, k), env1)) : ev cl (.bcall .abs (.cons a .nil)) env = some ((.int x.natAbs, false), env1) := by
  simp only [ev_bcall, evs_cons, ha, evs_nil, vals_cons, vals_nil, bcallV, bAbs, iR, mk_some, Option.some.injEq, Prod.mk.injEq, Val.int.injEq, and_true]
  split <;> omega
theorem ev_sum1 {l : List Int} (h : ev cl e env = some ((.lst (l.map .int), k), env1)) : ev cl (.bcall .sum (.cons e .nil)) env = some ((.int l.sum, false), env1) := by
  simp [h, bcallV, oI, intsOf, iR]
theorem ev_call1 {f : Nat} {u : Val} {r : Res} (h : ev cl a env = some ((u, k), env1)) (hc : cl f false [u] = some (r, .none)) : ev cl (.call f (.cons a .nil)) env = some (r, env1) := by
  simp [h, hc]
theorem ev_call2 {f : Nat} {u v : Val} {r : Res} (h : ev cl a env = some ((u, k), env1)) (h2 : ev cl b env1 = some ((v, k'), env2)) (hc : cl f false [u, v] = some (r, .none)) : ev cl (.call f (.cons a (.cons b .nil))) env = some (r, env2) := by
  simp [h, h2, hc]
theorem ev_call3 {f : Nat} {u v w : Val} {r : Res} {k'' : Bool} {env3 : Env} (h : ev cl a env = some ((u, k), env1)) (h2 : ev cl b env1 = some ((v, k'), env2)) (h3 : ev cl c env2 = some ((w, k''), env3)) (hc : cl f false [u, v, w] = some (r, .none)) : ev cl (.call f (.cons a (.cons b (.cons c .nil)))) env = some (r, env3) := by
  simp [h, h2, h3, hc]
theorem ex_seq' {s t : S} {r : Option (Flow × Env)} (h1 : ex cl s env = some (.nx, env1)) (h2 : ex cl t env1 = r) : ex cl (.seq s t) env = r := by rw [ex_seq, h1]; exact h2
theorem ex_seqR {s t : S} {r : Res} (h1 : ex cl s env = some (.ret r, env1)) : ex cl (.seq s t) env = some (.ret r, env1) := by rw [ex_seq, h1]
theorem ex_ret' {r : Res} (hn : nv e = true) (h : ev cl e env = some (r, env1)) : ex cl (.ret e) env = some (.ret r, env1) := by rw [ex_ret hn, h]
theorem ex_if {s t : S} {p : Bool} {r : Option (Flow × Env)} (h : boolR (ev cl e env) = some (p, env1)) (ht : p = true → ex cl s env1 = r) (hf : p = false → ex cl t env1 = r) : ex cl (.ite e s t) env = r := by
  rw [ex_ite, h]; cases p
  · exact hf rfl
  · exact ht rfl
theorem ex_asg' {i : Nat} {r : Res} (h : ev cl e env = some (r, env1)) (hn : nl (eget env1 i) = true) : ex cl (.asg i e) env = some (.nx, eset env1 i (some (r.1, if r.2 then .ow else .sh))) := by
  rw [ex_asg, h]; simp only [put_at hn, nxt_some]
theorem ex_for' {t : T} {s : S} {l : List Val} {r : Option (Flow × Env)} (h : itR (ev cl e env) = some (l, env1)) (hf : forS cl t s l env1 = r) : ex cl (.for_ t e s) env = r := by
  rw [ex_for, h]; exact hf
theorem ev_ite' {p : Bool} {r : Option (Res × Env)} (h : boolR (ev cl c env) = some (p, env1)) (ht : p = true → ev cl a env1 = r) (hf : p = false → ev cl b env1 = r) : ev cl (.ite c a b) env = r := by
  rw [ev_ite, h]; cases p
  · exact hf rfl
  · exact ht rfl
theorem ev_and' {p : Bool} {q : Bool} (h : boolR (ev cl a env) = some (p, env1)) (h2 : p = true → boolR (ev cl b env1) = some (q, env1)) : ev cl (.and a b) env = some ((.bool (p && q), false), env1) := by
  rw [ev_and, h]; cases p
  · rfl
  · simp only [h2 rfl, Bool.true_and]
theorem ev_or' {p : Bool} {q : Bool} (h : boolR (ev cl a env) = some (p, env1)) (h2 : p = false → boolR (ev cl b env1) = some (q, env1)) : ev cl (.or a b) env = some ((.bool (p || q), false), env1) := by
  rw [ev_or, h]; cases p
  · simp only [h2 rfl, Bool.false_or]
  · rfl
theorem boolR_of {p : Bool} (h : ev cl e env = some ((.bool p, k), env1)) : boolR (ev cl e env) = some (p, env1) := by rw [h]; rfl
theorem eset_eset : ∀ (env : Env) (i : Nat) (s t : Slot), eset (eset env i s) i t = eset env i t
  | [], _, _, _ => rfl
  | _ :: _, 0, _, _ => rfl
  | x :: r, i + 1, s, t => by simp only [eset, eset_eset r i s t]
theorem eset_self : ∀ (env : Env) (i : Nat), eset env i (eget env i) = env
  | [], _ => rfl
  | _ :: _, 0 => rfl
  | x :: r, i + 1 => by simp only [eget, eset, eset_self r i]
theorem eset_comm : ∀ (env : Env) (i j : Nat) (s t : Slot), i ≠ j → eset (eset env i s) j t = eset (eset env j t) i s
  | [], _, _, _, _, _ => rfl
  | _ :: _, 0, 0, _, _, h => absurd rfl h
  | _ :: _, 0, j + 1, _, _, _ => rfl
  | _ :: _, i + 1, 0, _, _, _ => rfl
  | x :: r, i + 1, j + 1, s, t, h => by simp only [eset, eset_comm r i j s t (by omega)]
theorem eget_eset_ne : ∀ (env : Env) (i j : Nat) (s : Slot), i ≠ j → eget (eset env i s) j = eget env j
  | [], _, _, _, _ => rfl
  | _ :: _, 0, 0, _, h => absurd rfl h
  | _ :: _, 0, j + 1, _, _ => rfl
  | _ :: _, i + 1, 0, _, _ => rfl
  | x :: r, i + 1, j + 1, s, h => by simp only [eget, eset, eget_eset_ne r i j s (by omega)]
theorem clearE_eset (vs : List Nat) : ∀ (env : Env) (i : Nat) (s : Slot), i ∈ vs → clearE vs (eset env i s) = clearE vs env := by
  induction vs with
  | nil => intro _ _ _ h; cases h
  | cons j r ih =>
    intro env i s h
    simp only [clearE]
    by_cases e : i = j
    · subst e; rw [eset_eset]
    · rw [eset_comm _ _ _ _ _ e]
      exact ih _ _ _ ((List.mem_cons.mp h).resolve_left e)
theorem back_clear (old : Env) : ∀ (vs : List Nat) (env : Env), clearE vs env = clearE vs old → backE old vs env = old
  | [], env, h => h
  | i :: r, env, h => by
    simp only [clearE] at h
    simp only [backE]
    refine back_clear old r _ ?_
    by_cases hi : i ∈ r
    · rw [clearE_eset r _ _ _ hi]
      rw [clearE_eset r _ _ _ hi, clearE_eset r _ _ _ hi] at h
      exact h
    · have key : ∀ (r : List Nat) (env : Env) (s : Slot), i ∉ r → clearE r (eset env i s) = eset (clearE r env) i s := by
        intro r
        induction r with
        | nil => intro _ _ _; rfl
        | cons j r ih =>
          intro env s hn
          simp only [clearE]
          rw [eset_comm _ _ _ _ _ (fun e => hn (by rw [e]; exact List.mem_cons_self ..)), ih _ _ (fun z => hn (List.mem_cons_of_mem _ z))]
      have kg : ∀ (r : List Nat) (env : Env), i ∉ r → eget (clearE r env) i = eget env i := by
        intro r
        induction r with
        | nil => intro _ _; rfl
        | cons j r ih =>
          intro env hn
          simp only [clearE]
          rw [ih _ (fun z => hn (List.mem_cons_of_mem _ z)), eget_eset_ne _ _ _ _ (fun e => hn (by rw [e]; exact List.mem_cons_self ..))]
      rw [key r _ _ hi, key r _ _ hi] at h
      rw [key r _ _ hi]
      have h2 := congrArg (fun z => eset z i (eget old i)) h
      simp only [eset_eset] at h2
      rw [h2, ← kg r old hi, eset_self]
/-- a comprehension that leaves the slots -/
theorem ev_compS {α : Type} {t : T} {it : E} {l : List α} (enc : α → Val) (p : α → Bool) (g : α → Val) (hit : itR (ev cl it env) = some (l.map enc, env0)) (hno : noOwn (slotsT t) env0 = true)
    (st : ∀ a ∈ l, ∃ env1 env2, bindT t (enc a) (clearE (slotsT t) env0) = some env1 ∧ boolR (ev cl c env1) = some (p a, env2) ∧ clearE (slotsT t) env2 = clearE (slotsT t) env0 ∧ (p a = true → ∃ b env3, ev cl e env2 = some ((g a, b), env3) ∧ clearE (slotsT t) env3 = clearE (slotsT t) env0)) :
    ev cl (.comp e t it c) env = some ((.lst ((l.filter p).map g), true), env0) := by
  refine ev_comp enc p g (fun env => clearE (slotsT t) env = clearE (slotsT t) env0) hit hno rfl (fun a ha env hr => ?_) fun env hr => back_clear _ _ _ hr
  obtain ⟨env1, env2, h1, h2, h3, h4⟩ := st a ha
  exact ⟨env1, by rw [hr]; exact h1, env2, h2, fun _ => h3, h4⟩
/-- without a test -/
theorem ev_compT {α : Type} {t : T} {it : E} {l : List α} (enc : α → Val) (g : α → Val) (hit : itR (ev cl it env) = some (l.map enc, env0)) (hno : noOwn (slotsT t) env0 = true)
    (st : ∀ a ∈ l, ∃ env1, bindT t (enc a) (clearE (slotsT t) env0) = some env1 ∧ ∃ b env3, ev cl e env1 = some ((g a, b), env3) ∧ clearE (slotsT t) env3 = clearE (slotsT t) env0) (hs : ∀ env1 a, bindT t (enc a) (clearE (slotsT t) env0) = some env1 → clearE (slotsT t) env1 = clearE (slotsT t) env0) :
    ev cl (.comp e t it (.const (.bool true))) env = some ((.lst (l.map g), true), env0) := by
  have h := ev_compS (cl := cl) (e := e) (c := .const (.bool true)) enc (fun _ => true) g hit hno fun a ha => by
    obtain ⟨env1, h1, b, env3, h2, h3⟩ := st a ha
    exact ⟨env1, env1, h1, by simp, hs _ _ h1, fun _ => ⟨b, env3, h2, h3⟩⟩
  rw [List.filter_eq_self.mpr (by simp)] at h
  exact h
theorem it_seq {v : Val} {l : List Int} (h : ev cl e env = some ((v, k), env1)) (hv : Sq v l) : itR (ev cl e env) = some (l.map .int, env1) := by
  rw [h]; exact itR_some hv.it
theorem it_zip {u v : Val} {l m : List Int} (ha : ev cl a env = some ((u, k), env1)) (hb : ev cl b env1 = some ((v, k'), env2)) (hu : Sq u l) (hv : Sq v m) :
    itR (ev cl (.zip (.cons a (.cons b .nil))) env) = some ((l.zip m).map fun q => .tup [.int q.1, .int q.2], env2) := by
  simp [ha, hb, zipV, hu.seq, hv.seq, zip2_ints]
theorem cl_ret {F : Nat → Option Fn} {n f : Nat} {d : Fn} {args : List Val} {r : Res} {env' : Env} (hF : F f = some d) (hl : args.length = d.np) (h : ex (clN F n) d.body (args.map (fun v => some (v, .sh)) ++ fresh (d.ns - d.np)) = some (.ret r, env')) :
    clN F (n + 1) f false args = some (r, .none) := by rw [cl_call hF hl, h]; rfl
theorem cl_nx {F : Nat → Option Fn} {n f : Nat} {d : Fn} {args : List Val} {env' : Env} (hF : F f = some d) (hl : args.length = d.np) (h : ex (clN F n) d.body (args.map (fun v => some (v, .sh)) ++ fresh (d.ns - d.np)) = some (.nx, env')) :
    clN F (n + 1) f false args = some ((.none, false), .none) := by rw [cl_call hF hl, h]; rfl
theorem cl_retio {F : Nat → Option Fn} {n f : Nat} {d : Fn} {v v' : Val} {args : List Val} {r : Res} {env' : Env} (hF : F f = some d) (hl : args.length + 1 = d.np) (h : ex (clN F n) d.body (some (v, .ln) :: args.map (fun v => some (v, .sh)) ++ fresh (d.ns - d.np)) = some (.ret r, some (v', .ln) :: env')) :
    clN F (n + 1) f true (v :: args) = some (r, v') := by rw [cl_callio hF hl, h]; rfl
theorem whileS_T {f : S} {n : Nat} {r : Option (Flow × Env)} (h : boolR (ev cl c env) = some (true, env1)) (h2 : ex cl f env1 = some (.nx, env2)) (h3 : whileS cl c f n env2 = r) : whileS cl c f (n + 1) env = r := by
  unfold whileS at h3 ⊢
  rw [whileLoop, h]
  simp only [h2, h3]
theorem whileS_F {f : S} {n : Nat} (h : boolR (ev cl c env) = some (false, env1)) : whileS cl c f (n + 1) env = some (.nx, env1) := by
  unfold whileS
  rw [whileLoop, h]
theorem ev_min2 (ha : ev cl a env = some ((.int x, k), env1)) (hb : ev cl b env1 = some ((.int y, k'), env2)) : ev cl (.bcall .min2 (.cons a (.cons b .nil))) env = some ((.int (if y < x then y else x), false), env2) := by
  simp [ha, hb, bcallV, bMin2, iR]
theorem ev_max2 (ha : ev cl a env = some ((.int x, k), env1)) (hb : ev cl b env1 = some ((.int y, k'), env2)) : ev cl (.bcall .max2 (.cons a (.cons b .nil))) env = some ((.int (if x < y then y else x), false), env2) := by
  simp [ha, hb, bcallV, bMax2, iR]
theorem ev_shl {p q : Nat} (ha : ev cl a env = some ((.int p, k), env1)) (hb : ev cl b env1 = some ((.int q, k'), env2)) (h : bits p + q ≤ 134217728) : ev cl (.bin .shl a b) env = some ((.int (p * 2 ^ q : Nat), false), env2) := by
  simp only [ev_bin, ha, hb, bin, binI, Int.toNat_natCast]
  rw [if_pos ⟨Int.natCast_nonneg _, Int.natCast_nonneg _, h⟩]
  rfl
theorem ev_shr {p q : Nat} (ha : ev cl a env = some ((.int p, k), env1)) (hb : ev cl b env1 = some ((.int q, k'), env2)) : ev cl (.bin .shr a b) env = some ((.int (p / 2 ^ q : Nat), false), env2) := by
  simp only [ev_bin, ha, hb, bin, binI, Int.toNat_natCast]
  rw [if_pos ⟨Int.natCast_nonneg _, Int.natCast_nonneg _⟩]
  rfl
theorem ev_bor {p q : Nat} (ha : ev cl a env = some ((.int p, k), env1)) (hb : ev cl b env1 = some ((.int q, k'), env2)) : ev cl (.bin .bor a b) env = some ((.int (p ||| q : Nat), false), env2) := by
  simp only [ev_bin, ha, hb, bin, binI, Int.toNat_natCast]
  rw [if_pos ⟨Int.natCast_nonneg _, Int.natCast_nonneg _⟩]
  rfl
theorem ev_band {p q : Nat} (ha : ev cl a env = some ((.int p, k), env1)) (hb : ev cl b env1 = some ((.int q, k'), env2)) : ev cl (.bin .band a b) env = some ((.int (p &&& q : Nat), false), env2) := by
  simp only [ev_bin, ha, hb, bin, binI, Int.toNat_natCast]
  rw [if_pos ⟨Int.natCast_nonneg _, Int.natCast_nonneg _⟩]
  rfl
/-- the same number, told another way -/
theorem ev_eqv {x y : Int} (h : x = y) (ha : ev cl a env = some ((.int x, k), env1)) : ev cl a env = some ((.int y, k), env1) := by rw [← h]; exact ha
theorem boolR_as {p q : Bool} (h : ev cl e env = some ((.bool q, k), env1)) (hq : q = p) : boolR (ev cl e env) = some (p, env1) := by rw [h, hq]; rfl
theorem ex_asgS {i : Nat} {v : Val} (h : ev cl e env = some ((v, false), env1)) (hn : nl (eget env1 i) = true) : ex cl (.asg i e) env = some (.nx, eset env1 i (some (v, .sh))) := ex_asg' h hn
theorem ex_asgO {i : Nat} {v : Val} (h : ev cl e env = some ((v, true), env1)) (hn : nl (eget env1 i) = true) : ex cl (.asg i e) env = some (.nx, eset env1 i (some (v, .ow))) := ex_asg' h hn
theorem ex_parS {i j : Nat} {v v' : Val} (ha : ev cl a env = some ((v, false), env1)) (hb : ev cl b env1 = some ((v', false), env2)) (hi : nl (eget env2 i) = true) (hj : nl (eget (eset env2 i (some (v, .sh))) j) = true) :
    ex cl (.par [i, j] (.cons a (.cons b .nil))) env = some (.nx, eset (eset env2 i (some (v, .sh))) j (some (v', .sh))) := by
  have hj' : nl (eget (eset env2 i (some ((v, false).1, if (v, false).2 = true then .ow else .sh))) j) = true := hj
  simp only [ex_par, evs_cons, ha, hb, evs_nil, puts_cons, put_at hi, put_at hj', puts_nil, nxt_some]
  rfl
theorem forS_nil {t : T} {s : S} : forS cl t s [] env = some (.nx, env) := rfl
theorem forS_nx {t : T} {s : S} {v : Val} {l : List Val} {r : Option (Flow × Env)} (h : bindT t v env = some env1) (h2 : ex cl s env1 = some (.nx, env2)) (h3 : forS cl t s l env2 = r) : forS cl t s (v :: l) env = r := by
  unfold forS at h3 ⊢
  rw [forLoop, h]
  simp only [h2, h3]
theorem forS_ct {t : T} {s : S} {v : Val} {l : List Val} {r : Option (Flow × Env)} (h : bindT t v env = some env1) (h2 : ex cl s env1 = some (.ct, env2)) (h3 : forS cl t s l env2 = r) : forS cl t s (v :: l) env = r := by
  unfold forS at h3 ⊢
  rw [forLoop, h]
  simp only [h2, h3]
theorem forS_brk {t : T} {s : S} {v : Val} {l : List Val} (h : bindT t v env = some env1) (h2 : ex cl s env1 = some (.brk, env2)) : forS cl t s (v :: l) env = some (.nx, env2) := by
  unfold forS
  rw [forLoop, h]
  simp only [h2]
theorem forS_ret {t : T} {s : S} {v : Val} {l : List Val} {r : Res} (h : bindT t v env = some env1) (h2 : ex cl s env1 = some (.ret r, env2)) : forS cl t s (v :: l) env = some (.ret r, env2) := by
  unfold forS
  rw [forLoop, h]
  simp only [h2]
theorem ev_addL {l m : List Val} (ha : ev cl a env = some ((.lst l, k), env1)) (hb : ev cl b env1 = some ((.lst m, k'), env2)) (h : l.length + m.length ≤ 16777216) : ev cl (.bin .add a b) env = some ((.lst (l ++ m), true), env2) := by
  have h' : okLen (l.length + m.length) = true := by unfold okLen; exact decide_eq_true h
  simp only [ev_bin, ha, hb, bin, h', if_true, mk_some]
theorem ev_mulL {l : List Val} (ha : ev cl a env = some ((.lst l, k), env1)) (hb : ev cl b env1 = some ((.int x, k'), env2)) (h : x.natAbs < 9223372036854775808) (h2 : l.length * x.toNat ≤ 16777216) : ev cl (.bin .mul a b) env = some ((.lst (List.replicate x.toNat l).flatten, true), env2) := by
  simp only [ev_bin, ha, hb, bin, h, h2, and_self, if_true, mk_some]
end
end QS

end
section
set_option Elab.async false
set_option linter.all false
set_option maxRecDepth 100000
/-! what the program's defs compute: sums.py -/
namespace QS
open PySem (Str)
open Q
def okc (x : Int) : Prop := x.natAbs < 1000000
theorem okc_mul {x y : Int} (h : okc x) : okMul x y = true := okMul_l (by unfold okc at h; omega)
def lsum (cs bs : List Int) : Int := (((cs.zip bs).filter fun q => decide (q.1 < 0)).map fun q => q.1 * q.2).sum
def gsum (cs bs : List Int) : Int := (((cs.zip bs).filter fun q => decide (0 < q.1)).map fun q => q.1 * q.2).sum
def gcdL (cs : List Int) : Nat := cs.foldl (fun f c => Nat.gcd f c.natAbs) 0
theorem ex_par2 {cl : Cl} {env env1 env2 : Env} {a b : E} {i j : Nat} {r r' : Res} (ha : ev cl a env = some (r, env1)) (hb : ev cl b env1 = some (r', env2)) (hi : nl (eget env2 i) = true) (hj : nl (eget (eset env2 i (some (r.1, if r.2 then .ow else .sh))) j) = true) :
    ex cl (.par [i, j] (.cons a (.cons b .nil))) env = some (.nx, eset (eset env2 i (some (r.1, if r.2 then .ow else .sh))) j (some (r'.1, if r'.2 then .ow else .sh))) := by
  simp [ha, hb, put_at hi, put_at hj]
theorem ev_eqI {cl : Cl} {env env1 env2 : Env} {a b : E} {x y : Int} {k k' : Bool} (ha : ev cl a env = some ((.int x, k), env1)) (hb : ev cl b env1 = some ((.int y, k'), env2)) : ev cl (.cmp .eq a b) env = some ((.bool (decide (x = y)), false), env2) := by
  simp only [ev_cmp, ha, hb, cmpv, dat8, dat, Bool.and_self, if_true, mkB_some, veq, Option.some.injEq, Prod.mk.injEq, Val.bool.injEq, and_true]
  by_cases h : x = y <;> simp [h]
section
variable {F : Nat → Option Fn} {n : Nat} {c b : Val} {cs bs : List Int}
theorem q_least_sum (h1 : F 1 = some p_least_sum) (hc : Sq c cs) (hb : Sq b bs) (ok : ∀ x ∈ cs, okc x) :
    clN F (n + 1) 1 false [c, b] = some ((.int (lsum cs bs), false), .none) :=
  cl_ret h1 rfl (ex_ret' rfl (ev_sum1 (by
    rw [List.map_map]
    exact ev_compS _ _ _ (it_zip rfl rfl hc hb) rfl fun q hm => ⟨_, _, rfl, rfl, rfl, fun _ => ⟨_, _, ev_mul (okc_mul (ok _ (List.of_mem_zip hm).1)) rfl rfl, rfl⟩⟩)))
theorem q_greatest_sum (h1 : F 2 = some p_greatest_sum) (hc : Sq c cs) (hb : Sq b bs) (ok : ∀ x ∈ cs, okc x) :
    clN F (n + 1) 2 false [c, b] = some ((.int (gsum cs bs), false), .none) :=
  cl_ret h1 rfl (ex_ret' rfl (ev_sum1 (by
    rw [List.map_map]
    exact ev_compS _ _ _ (it_zip rfl rfl hc hb) rfl fun q hm => ⟨_, _, rfl, rfl, rfl, fun _ => ⟨_, _, ev_mul (okc_mul (ok _ (List.of_mem_zip hm).1)) rfl rfl, rfl⟩⟩)))
theorem step_while (cl : Cl) (u o : Slot) : ∀ (k f m : Nat), m < k → whileS cl (.cmp .gt (.var 3) (.const (.int 0))) b_step_1 k [u, some (.int f, .sh), o, some (.int m, .sh)] = some (.nx, [u, some (.int (Nat.gcd f m), .sh), o, some (.int 0, .sh)]) := by
  intro k
  induction k with
  | zero => intro f m h; omega
  | succ k ih =>
    intro f m h
    unfold whileS whileLoop
    cases m with
    | zero => simp [cmpv, cmpI]
    | succ m =>
      have e : boolR (ev cl (.cmp .gt (.var 3) (.const (.int 0))) [u, some (.int f, .sh), o, some (.int (m + 1 : Nat), .sh)]) = some (true, [u, some (.int f, .sh), o, some (.int (m + 1 : Nat), .sh)]) := by simp [cmpv, cmpI]
      rw [e]
      have e2 : ex cl b_step_1 [u, some (.int f, .sh), o, some (.int (m + 1 : Nat), .sh)] = some (.nx, [u, some (.int (m + 1 : Nat), .sh), o, some (.int (f % (m + 1) : Nat), .sh)]) := by
        refine (ex_par2 rfl (ev_mod (by omega) rfl rfl) rfl rfl).trans ?_
        rw [Int.fmod_eq_emod_of_nonneg _ (by omega)]
        rfl
      simp only [e2]
      have := ih (m + 1) (f % (m + 1)) (by have := Nat.mod_lt f (y := m + 1) (by omega); omega)
      unfold whileS at this
      rw [this, Nat.gcd_comm f, Nat.gcd_rec (m + 1) f, Nat.gcd_comm (f % (m + 1))]
theorem q_step (h1 : F 3 = some p_step) (hc : Sq c cs) (ok : ∀ x ∈ cs, okc x) : clN F (n + 1) 3 false [c] = some ((.int (gcdL cs), false), .none) := by
  obtain ⟨env', he, o, o2, rfl, _⟩ := for_inv (cl := clN F n) (t := .name 2) (b := b_step_2) Val.int (fun (f : Nat) c => Nat.gcd f c.natAbs)
    (fun f env => ∃ o o2, env = [some (c, .sh), some (.int f, .sh), o, o2] ∧ nl o = true ∧ nl o2 = true) cs 0 [some (c, .sh), some (.int 0, .sh), none, none] ⟨none, none, rfl, by simp, by simp⟩
    (fun f x env hm ⟨o, o2, e, ho, ho2⟩ => by
      subst e
      exact ⟨_, bind_name (by simpa using ho), _, .inl (ex_seq' (ex_asg' (ev_abs rfl) (by simpa using ho2)) (ex_while.trans (step_while _ _ _ 1000000000 f x.natAbs (by have := ok x hm; unfold okc at this; omega)))), _, _, rfl, by simp, by simp⟩)
  exact cl_ret h1 rfl (ex_seq' (ex_asg' rfl rfl) (ex_seq' (ex_for' (it_seq rfl hc) he) rfl))
theorem q_divides (h1 : F 4 = some p_divides) {x y : Int} : clN F (n + 1) 4 false [.int x, .int y] = some ((.bool (if x = 0 then decide (y = 0) else decide (y % x = 0)), false), .none) := by
  refine cl_ret (env' := [some (.int x, .sh), some (.int y, .sh)]) h1 rfl (ex_ret' rfl (ev_ite' (p := decide (x = 0)) (env1 := [some (.int x, .sh), some (.int y, .sh)]) ?_ (fun h => ?_) fun h => ?_))
  · exact boolR_of (ev_eqI rfl rfl)
  · rw [if_pos (by simpa using h)]; exact ev_eqI rfl rfl
  · have hx : x ≠ 0 := by simpa using h
    rw [if_neg hx]
    refine (ev_eqI (ev_mod hx rfl rfl) rfl).trans ?_
    have e : decide (Int.fmod y x = 0) = decide (y % x = 0) := decide_eq_decide.mpr (by rw [← Int.dvd_iff_emod_eq_zero, ← Int.dvd_iff_fmod_eq_zero])
    rw [e]
end
/-! ### marks -/
def fillN (c : Nat) : Nat → Nat → Nat → Nat → Nat
  | 0, here, _, _ => here
  | k + 1, here, left, part => if left = 0 then here else fillN c k (here ||| here * 2 ^ (c * min part left)) (left - min part left) (part + part)
def fill (m c b : Nat) : Nat := fillN c (b + 1) m b 1
theorem testBit_shl (x i j : Nat) : (x * 2 ^ i).testBit j = (decide (i ≤ j) && x.testBit (j - i)) := by
  rw [Nat.mul_comm, Nat.testBit_two_pow_mul]
theorem fillN_bit (c m : Nat) : ∀ (k here left done : Nat), left < k → (∀ j, here.testBit j = true ↔ ∃ t, t ≤ done ∧ c * t ≤ j ∧ m.testBit (j - c * t) = true) →
    ∀ j, (fillN c k here left (done + 1)).testBit j = true ↔ ∃ t, t ≤ done + left ∧ c * t ≤ j ∧ m.testBit (j - c * t) = true := by
  intro k
  induction k with
  | zero => intro here left done h; omega
  | succ k ih =>
    intro here left done hk hh j
    unfold fillN
    split
    · rename_i h0; subst h0; exact hh j
    · rename_i h0
      have hs : 1 ≤ min (done + 1) left := by omega
      have e : done + 1 + (done + 1) = (done + (done + 1)) + 1 := by omega
      by_cases hc : left ≤ done + 1
      · -- the last turn
        have hm : min (done + 1) left = left := by omega
        rw [hm]
        have : left - left = 0 := by omega
        rw [this]
        have hz : ∀ k x p, (fillN c k x 0 p) = x := by intro k x p; cases k <;> simp [fillN]
        rw [hz, Nat.testBit_or, testBit_shl, Bool.or_eq_true, Bool.and_eq_true, decide_eq_true_eq, hh, hh]
        constructor
        · rintro (⟨t, h1, h2, h3⟩ | ⟨h0, t, h1, h2, h3⟩)
          · exact ⟨t, by omega, h2, h3⟩
          · refine ⟨t + left, by omega, by rw [Nat.mul_add]; omega, ?_⟩
            rw [Nat.mul_add, Nat.add_comm, Nat.sub_add_eq]; exact h3
        · rintro ⟨t, h1, h2, h3⟩
          by_cases ht : t ≤ done
          · exact .inl ⟨t, ht, h2, h3⟩
          · have h4 : c * t = c * left + c * (t - left) := by rw [← Nat.mul_add]; congr 1; omega
            exact .inr ⟨by omega, t - left, by omega, by omega, by rw [Nat.sub_sub, ← h4]; exact h3⟩
      · have hm : min (done + 1) left = done + 1 := by omega
        rw [hm, e]
        have := ih (here ||| here * 2 ^ (c * (done + 1))) (left - (done + 1)) (done + (done + 1)) (by omega) (fun j => by
          rw [Nat.testBit_or, testBit_shl, Bool.or_eq_true, Bool.and_eq_true, decide_eq_true_eq, hh, hh]
          constructor
          · rintro (⟨t, h1, h2, h3⟩ | ⟨h0, t, h1, h2, h3⟩)
            · exact ⟨t, by omega, h2, h3⟩
            · refine ⟨t + (done + 1), by omega, by rw [Nat.mul_add]; omega, ?_⟩
              rw [Nat.mul_add, Nat.add_comm, Nat.sub_add_eq]; exact h3
          · rintro ⟨t, h1, h2, h3⟩
            by_cases ht : t ≤ done
            · exact .inl ⟨t, ht, h2, h3⟩
            · have h4 : c * t = c * (done + 1) + c * (t - (done + 1)) := by rw [← Nat.mul_add]; congr 1; omega
              exact .inr ⟨by omega, t - (done + 1), by omega, by omega, by rw [Nat.sub_sub, ← h4]; exact h3⟩) j
        rw [this]
        have e2 : done + (done + 1) + (left - (done + 1)) = done + left := by omega
        rw [e2]
theorem fill_bit (m c b j : Nat) : (fill m c b).testBit j = true ↔ ∃ t, t ≤ b ∧ c * t ≤ j ∧ m.testBit (j - c * t) = true := by
  have := fillN_bit c m (b + 1) m b 0 (by omega) (fun j => ⟨fun h => ⟨0, by omega, by omega, by simpa using h⟩, fun ⟨t, h1, h2, h3⟩ => by
    have : t = 0 := by omega
    subst this; simpa using h3⟩) j
  simpa [fill] using this
theorem bits_le {x w : Nat} (h : x < 2 ^ w) : bits x ≤ w := by
  unfold bits
  split
  · omega
  · rename_i h0
    have := (Nat.log2_lt h0).mpr h
    omega
theorem lt_bits (x : Nat) : x < 2 ^ bits x := by
  unfold bits
  split
  · rename_i h; subst h; decide
  · exact Nat.lt_log2_self
theorem or_shl_lt {x w s : Nat} (h : x < 2 ^ w) : (x ||| x * 2 ^ s) < 2 ^ (w + s) := by
  refine Nat.or_lt_two_pow (Nat.lt_of_lt_of_le h (Nat.pow_le_pow_right (by omega) (by omega))) ?_
  rw [Nat.pow_add]
  exact Nat.mul_lt_mul_of_pos_right h (Nat.two_pow_pos s)
section
variable {F : Nat → Option Fn} {n : Nat} {c b : Val} {cs bs : List Int}
theorem marks_while (cl : Cl) (u0 u1 u2 u4 : Slot) (x : Int) : ∀ (k K here left part w : Nat) (o8 : Slot), nl o8 = true → left < k → k ≤ K → here < 2 ^ w → w + x.natAbs * left ≤ 100000000 → x.natAbs < 1000000 → 0 < part →
    ∃ o o7, nl o = true ∧ nl o7 = true ∧ whileS cl (.cmp .gt (.var 6) (.const (.int 0))) b_marks_along_1 K [u0, u1, u2, some (.int x, .sh), u4, some (.int here, .sh), some (.int left, .sh), some (.int part, .sh), o8] =
      some (.nx, [u0, u1, u2, some (.int x, .sh), u4, some (.int (fillN x.natAbs k here left part : Nat), .sh), some (.int 0, .sh), o7, o]) := by
  intro k
  induction k with
  | zero => intro K here left part w o8 h8 h; omega
  | succ k ih =>
    intro K here left part w o8 h8 hk hK hw hb hx hp
    obtain ⟨K, rfl⟩ : ∃ K', K = K' + 1 := ⟨K - 1, by omega⟩
    by_cases h0 : left = 0
    · subst h0
      exact ⟨o8, some (.int part, .sh), h8, by simp, (whileS_F (boolR_as rfl (by simp))).trans (by simp [fillN])⟩
    · have hml : min part left ≤ left := Nat.min_le_right ..
      have hm : x.natAbs * min part left ≤ x.natAbs * left := Nat.mul_le_mul_left _ hml
      have hbits : bits here + x.natAbs * min part left ≤ 134217728 := by have := bits_le hw; omega
      obtain ⟨o, o7, ho, ho7, h⟩ := ih K (here ||| here * 2 ^ (x.natAbs * min part left)) (left - min part left) (part + part) (w + x.natAbs * min part left) (some (.int (min part left : Nat), .sh)) (by simp) (by omega) (by omega) (or_shl_lt hw) (by rw [Nat.mul_sub]; omega) hx (by omega)
      refine ⟨o, o7, ho, ho7, (whileS_T (boolR_as rfl (by simp; omega)) ?_ h).trans (by simp [fillN, h0])⟩
      refine ex_seq' (ex_asgS (ev_eqv (y := ((min part left : Nat) : Int)) ?_ (ev_min2 rfl rfl)) (by simpa using h8)) (ex_seq' (ex_asgS (ev_bor rfl (ev_shl rfl (ev_eqv (y := ((x.natAbs * min part left : Nat) : Int)) ?_ (ev_mul ?_ (ev_abs rfl) rfl)) hbits)) (by simp)) ((ex_parS (ev_eqv (y := ((left - min part left : Nat) : Int)) ?_ (ev_sub rfl rfl)) (ev_eqv (y := ((part + part : Nat) : Int)) ?_ (ev_add rfl rfl)) rfl rfl).trans rfl))
      · split <;> omega
      · simp
      · exact okMul_l (by simp; omega)
      · omega
      · omega
/-- all rows of marks -/
def rowsM : Nat → List (Int × Int) → List Nat
  | m, [] => [m]
  | m, q :: r => m :: rowsM (fill m q.1.natAbs q.2.toNat) r
def lastM (m : Nat) (l : List (Int × Int)) : Nat := l.foldl (fun m q => fill m q.1.natAbs q.2.toNat) m
def wid (l : List (Int × Int)) : Nat := (l.map fun q => q.1.natAbs * q.2.toNat).sum
def nats (l : List Nat) : List Val := l.map fun (k : Nat) => Val.int (k : Int)
theorem rowsM_app (m : Nat) (l : List (Int × Int)) (q : Int × Int) : rowsM m (l ++ [q]) = rowsM m l ++ [fill (lastM m l) q.1.natAbs q.2.toNat] := by
  induction l generalizing m with
  | nil => rfl
  | cons x l ih => simp only [List.cons_append, rowsM, ih]; rfl
theorem rowsM_last (m : Nat) (l : List (Int × Int)) : (rowsM m l)[l.length]? = some (lastM m l) := by
  induction l generalizing m with
  | nil => rfl
  | cons x l ih => simp only [rowsM, List.length_cons, List.getElem?_cons_succ, ih]; rfl
theorem rowsM_len (m : Nat) (l : List (Int × Int)) : (rowsM m l).length = l.length + 1 := by
  induction l generalizing m with
  | nil => rfl
  | cons x l ih => simp only [rowsM, List.length_cons, ih]
theorem fill_lt {m w c b : Nat} (h : m < 2 ^ w) : fill m c b < 2 ^ (w + c * b) := by
  refine Nat.lt_pow_two_of_testBit _ fun j hj => ?_
  cases e : (fill m c b).testBit j with
  | false => rfl
  | true =>
    obtain ⟨t, h1, h2, h3⟩ := (fill_bit m c b j).mp e
    have h4 : c * t ≤ c * b := Nat.mul_le_mul_left _ h1
    rw [Nat.testBit_lt_two_pow (Nat.lt_of_lt_of_le h (Nat.pow_le_pow_right (by omega) (by omega)))] at h3
    cases h3
theorem lastM_lt (l : List (Int × Int)) : ∀ (m w : Nat), m < 2 ^ w → lastM m l < 2 ^ (w + wid l) := by
  induction l with
  | nil => intro m w h; simpa [lastM, wid] using h
  | cons q l ih =>
    intro m w h
    have := ih _ _ (fill_lt (c := q.1.natAbs) (b := q.2.toNat) h)
    simp only [wid, List.map_cons, List.sum_cons] at this ⊢
    rw [← Nat.add_assoc]
    exact this
theorem atI_last {l : List Val} {v : Val} (h : l.getLast? = some v) : atI l (-1) = some v := by
  have hl : 0 < l.length := by cases l <;> simp at h ⊢
  have e : ixN l.length (-1) = some (l.length - 1) := by
    unfold ixN
    rw [if_neg (by omega), if_pos (by omega)]
    congr 1; omega
  unfold atI
  rw [e]
  rw [List.getLast?_eq_getElem?] at h
  exact h
theorem nats_rows_last (l : List (Int × Int)) : (nats (rowsM 1 l)).getLast? = some (.int (lastM 1 l)) := by
  rw [List.getLast?_eq_getElem?]
  unfold nats
  rw [List.length_map, rowsM_len, List.getElem?_map, Nat.add_sub_cancel, rowsM_last]
  rfl
theorem ev_idxL {cl : Cl} {env env1 : Env} {i : Nat} {a : E} {l : List Val} {v : Val} {x : Int} {k : Bool} {f : Fl} (hh : has env i = true) (ha : ev cl a env = some ((.int x, k), env1)) (hl : eget env1 i = some (.lst l, f)) (h : atI l x = some v) :
    ev cl (.idxv i a) env = some ((v, false), env1) := by
  simp only [ev_idxv, hh, if_true, ha, hl, idxV, h, mkV_some]
theorem ex_appO {cl : Cl} {env env1 : Env} {i : Nat} {a : E} {l : List Val} {v : Val} {k : Bool} (hh : hasL env i = true) (ha : ev cl a env = some ((v, k), env1)) (hl : eget env1 i = some (.lst l, .ow)) (h : l.length < 16777216) :
    ex cl (.app i a) env = some (.nx, eset env1 i (some (.lst (l ++ [v]), .ow))) := by
  simp only [ex_app, hh, if_true, ha, chg, hl, appV, h, nxt_some]
theorem nats_app (l : List Nat) (k : Nat) : nats l ++ [.int (k : Int)] = nats (l ++ [k]) := by simp [nats]
theorem q_marks_along (h1 : F 5 = some p_marks_along) (hc : Sq c cs) (hb : Sq b bs) (ok : ∀ x ∈ cs, okc x) (okb : ∀ x ∈ bs, 0 ≤ x ∧ okc x) (hw : wid (cs.zip bs) ≤ 10000000) (hl : cs.length ≤ 1000000) :
    clN F (n + 1) 5 false [c, b] = some ((.lst (nats (rowsM 1 (cs.zip bs))), true), .none) := by
  have main : ∀ (l d : List (Int × Int)), (∀ q ∈ l, q ∈ cs.zip bs) → d ++ l = cs.zip bs → ∀ o3 o4 o5 o6 o7 o8, nl o3 = true → nl o4 = true → nl o5 = true → nl o6 = true → nl o7 = true → nl o8 = true →
      ∃ p3 p4 p5 p6 p7 p8, forS (clN F n) (.tup (.cons (.name 3) (.cons (.name 4) .nil))) b_marks_along_2 (l.map fun q => .tup [.int q.1, .int q.2]) [some (c, .sh), some (b, .sh), some (.lst (nats (rowsM 1 d)), .ow), o3, o4, o5, o6, o7, o8] =
        some (.nx, [some (c, .sh), some (b, .sh), some (.lst (nats (rowsM 1 (d ++ l))), .ow), p3, p4, p5, p6, p7, p8]) := by
    intro l
    induction l with
    | nil => intro d hm e o3 o4 o5 o6 o7 o8 _ _ _ _ _ _; exact ⟨o3, o4, o5, o6, o7, o8, by simp [forS, forLoop]⟩
    | cons q l ih =>
      intro d hm e o3 o4 o5 o6 o7 o8 h3 h4 h5 h6 h7 h8
      have hq := hm q (List.mem_cons_self ..)
      have hw1 : wid d + q.1.natAbs * q.2.toNat + wid l = wid (cs.zip bs) := by rw [← e]; simp [wid]; omega
      have hq2 := okb _ (List.of_mem_zip hq).2
      have hq1 := ok _ (List.of_mem_zip hq).1
      have hlast := lastM_lt d 1 1 (by decide)
      have hlen : d.length < 1000000 := by
        have := congrArg List.length e
        simp at this; omega
      obtain ⟨o, o7', ho, ho7, hwh⟩ := marks_while (clN F n) (some (c, .sh)) (some (b, .sh)) (some (.lst (nats (rowsM 1 d)), .ow)) (some (.int q.2, .sh)) q.1 (q.2.toNat + 1) 1000000000 (lastM 1 d) q.2.toNat 1 (1 + wid d) o8 h8 (by omega) (by unfold okc at hq2; omega) hlast (by omega) hq1 (by omega)
      obtain ⟨p3, p4, p5, p6, p7, p8, hf⟩ := ih (d ++ [q]) (fun x m => hm x (List.mem_cons_of_mem _ m)) (by rw [List.append_assoc]; exact e) (some (.int q.1, .sh)) (some (.int q.2, .sh)) (some (.int (fill (lastM 1 d) q.1.natAbs q.2.toNat : Nat), .sh)) (some (.int 0, .sh)) o7' o (by simp) (by simp) (by simp) (by simp) ho7 ho
      refine ⟨p3, p4, p5, p6, p7, p8, ?_⟩
      rw [List.append_assoc] at hf
      have e1 : bindT (.tup (.cons (.name 3) (.cons (.name 4) .nil))) (.tup [.int q.1, .int q.2]) [some (c, .sh), some (b, .sh), some (.lst (nats (rowsM 1 d)), .ow), o3, o4, o5, o6, o7, o8] = some [some (c, .sh), some (b, .sh), some (.lst (nats (rowsM 1 d)), .ow), some (.int q.1, .sh), some (.int q.2, .sh), o5, o6, o7, o8] := by
        simp [bind_name, h3, h4]
      have e2 : ex (clN F n) b_marks_along_2 [some (c, .sh), some (b, .sh), some (.lst (nats (rowsM 1 d)), .ow), some (.int q.1, .sh), some (.int q.2, .sh), o5, o6, o7, o8] =
          some (.nx, [some (c, .sh), some (b, .sh), some (.lst (nats (rowsM 1 (d ++ [q]))), .ow), some (.int q.1, .sh), some (.int q.2, .sh), some (.int (fill (lastM 1 d) q.1.natAbs q.2.toNat : Nat), .sh), some (.int 0, .sh), o7', o]) := by
        refine ex_seq' (env1 := [some (c, .sh), some (b, .sh), some (.lst (nats (rowsM 1 d)), .ow), some (.int q.1, .sh), some (.int q.2, .sh), some (.int (lastM 1 d : Nat), .sh), some (.int (q.2.toNat : Nat), .sh), some (.int ((1 : Nat) : Int), .sh), o8]) ?_ (ex_seq' (ex_while.trans hwh) ?_)
        · have hi : ev (clN F n) (.idxv 2 (.neg (.const (.int 1)))) [some (c, .sh), some (b, .sh), some (.lst (nats (rowsM 1 d)), .ow), some (.int q.1, .sh), some (.int q.2, .sh), o5, o6, o7, o8] = some ((.int (lastM 1 d : Nat), false), _) := ev_idxL rfl rfl rfl (atI_last (nats_rows_last d))
          have h0 : ((q.2.toNat : Nat) : Int) = q.2 := by omega
          rw [h0]
          simp [hi, put_at, h5, h6, h7]
        · refine (ex_appO rfl rfl rfl ?_).trans ?_
          · simp [nats, rowsM_len]; omega
          · rw [rowsM_app, ← nats_app]; rfl
      exact forS_nx e1 e2 hf
  obtain ⟨p3, p4, p5, p6, p7, p8, hf⟩ := main (cs.zip bs) [] (fun _ m => m) rfl none none none none none none (by simp) (by simp) (by simp) (by simp) (by simp) (by simp)
  exact cl_ret h1 rfl (ex_seq' (ex_asgO rfl rfl) (ex_seq' (ex_for' (it_zip rfl rfl hc hb) hf) rfl))
theorem q_is_marked (h1 : F 6 = some p_is_marked) {m : Nat} {x : Int} : clN F (n + 1) 6 false [.int m, .int x] = some ((.bool (decide (0 ≤ x) && m.testBit x.toNat), false), .none) := by
  have key : ev (clN F n) (.and (.chain .le .lt (.const (.int 0)) (.var 1) (.mcall .bitlen (.var 0) .nil)) (.cmp .eq (.bin .band (.bin .shr (.var 0) (.var 1)) (.const (.int 1))) (.const (.int 1)))) [some (.int m, .sh), some (.int x, .sh)] = some ((.bool (decide (0 ≤ x) && m.testBit x.toNat), false), [some (.int m, .sh), some (.int x, .sh)]) := by
    by_cases h0 : 0 ≤ x
    · obtain ⟨k, rfl⟩ := Int.eq_ofNat_of_zero_le h0
      have e1 : boolR (ev (clN F n) (.chain .le .lt (.const (.int 0)) (.var 1) (.mcall .bitlen (.var 0) .nil)) [some (.int m, .sh), some (.int k, .sh)]) = some (decide (k < bits m), [some (.int m, .sh), some (.int k, .sh)]) := by
        simp [cmpv, cmpI, mcallV, mBits, iR]
      refine (ev_and' (q := m.testBit k) e1 fun hk => ?_).trans ?_
      · refine (boolR_of (ev_eqI (y := 1) (ev_band (p := m / 2 ^ k) (q := 1) (ev_shr rfl rfl) rfl) rfl)).trans ?_
        have : decide (((m / 2 ^ k &&& 1 : Nat) : Int) = 1) = m.testBit k := by
          rw [Nat.and_one_is_mod, Nat.testBit_eq_decide_div_mod_eq]
          exact decide_eq_decide.mpr (by omega)
        rw [this]
      · by_cases hk : k < bits m
        · simp [hk]
        · have : m.testBit k = false := Nat.testBit_lt_two_pow (Nat.lt_of_lt_of_le (lt_bits m) (Nat.pow_le_pow_right (by omega) (by omega)))
          simp [hk, this]
    · simp [cmpv, cmpI, h0]
  exact cl_ret h1 rfl (ex_ret' rfl key)
/-- is_sum, by marks -/
theorem q_is_sum (h1 : F 1 = some p_least_sum) (h5 : F 5 = some p_marks_along) (h6 : F 6 = some p_is_marked) (h7 : F 7 = some p_is_sum) {x : Int} (hc : Sq c cs) (hb : Sq b bs) (ok : ∀ x ∈ cs, okc x) (okb : ∀ x ∈ bs, 0 ≤ x ∧ okc x) (hw : wid (cs.zip bs) ≤ 10000000) (hl : cs.length ≤ 1000000) :
    clN F (n + 2) 7 false [c, b, .int x] = some ((.bool (decide (0 ≤ x - lsum cs bs) && (lastM 1 (cs.zip bs)).testBit (x - lsum cs bs).toNat), false), .none) := by
  have hls : ev (clN F (n + 1)) (.call 1 (.cons (.var 0) (.cons (.var 1) .nil))) [some (c, .sh), some (b, .sh), some (.int x, .sh)] = some ((.int (lsum cs bs), false), [some (c, .sh), some (b, .sh), some (.int x, .sh)]) := ev_call2 rfl rfl (q_least_sum h1 hc hb ok)
  refine cl_ret (env' := [some (c, .sh), some (b, .sh), some (.int x, .sh)]) h7 rfl (ex_ret' rfl (ev_call2 (u := .int (lastM 1 (cs.zip bs))) (k := false) (env1 := [some (c, .sh), some (b, .sh), some (.int x, .sh)]) ?_ (ev_sub rfl hls) (q_is_marked h6)))
  · have hm := ev_call2 (cl := clN F (n + 1)) (f := 5) (a := .var 0) (b := .var 1) (env := [some (c, .sh), some (b, .sh), some (.int x, .sh)]) (u := c) (v := b) rfl rfl (q_marks_along h5 hc hb ok okb hw hl)
    show ev (clN F (n + 1)) (.idx (.call 5 (.cons (.var 0) (.cons (.var 1) .nil))) (.neg (.const (.int 1)))) [some (c, .sh), some (b, .sh), some (.int x, .sh)] = _
    rw [ev_idx, hm]
    simp only [ev_neg, ev_const, idxV, atI_last (nats_rows_last (cs.zip bs)), mkV_some]
end
end QS

end
section
set_option Elab.async false
set_option linter.all false
set_option maxRecDepth 100000
/-! how_many_counters -/
namespace QS
open PySem (Str)
open Q
def dpf (W : List Nat) (c at_ k : Nat) : Nat := if c * k ≤ at_ then W.getD (at_ - c * k) 0 else 0
def dpv (W : List Nat) (c b at_ : Nat) : Nat := ((List.range (b + 1)).map (dpf W c at_)).sum
def dpL (W : List Nat) (c b : Nat) : List Nat := (List.range W.length).map (dpv W c b)
theorem dpv_rec (W : List Nat) {c : Nat} (b at_ : Nat) (hc : 0 < c) : dpv W c b at_ + dpf W c at_ (b + 1) = W.getD at_ 0 + (if c ≤ at_ then dpv W c b (at_ - c) else 0) := by
  have e1 : dpv W c b at_ + dpf W c at_ (b + 1) = ((List.range (b + 1 + 1)).map (dpf W c at_)).sum := by
    rw [List.range_succ (n := b + 1), List.map_append, List.sum_append]; simp [dpv]
  rw [e1, List.range_succ_eq_map, List.map_cons, List.sum_cons, List.map_map]
  have e2 : dpf W c at_ 0 = W.getD at_ 0 := by simp [dpf]
  rw [e2]
  congr 1
  split
  · rename_i h
    unfold dpv
    congr 1
    refine List.map_congr_left fun k _ => ?_
    show dpf W c at_ (k + 1) = dpf W c (at_ - c) k
    unfold dpf
    rw [Nat.mul_add, Nat.mul_one]
    by_cases h2 : c * k + c ≤ at_
    · rw [if_pos h2, if_pos (by omega), Nat.sub_sub, Nat.add_comm c (c * k)]
    · rw [if_neg h2, if_neg (by omega)]
  · rename_i h
    have : ∀ x ∈ (List.range (b + 1)).map (dpf W c at_ ∘ Nat.succ), x = 0 := by
      intro x hx
      obtain ⟨k, _, rfl⟩ := List.mem_map.mp hx
      show dpf W c at_ (k + 1) = 0
      unfold dpf
      rw [Nat.mul_add, Nat.mul_one, if_neg (by omega)]
    generalize (List.range (b + 1)).map (dpf W c at_ ∘ Nat.succ) = L at this
    induction L with
    | nil => rfl
    | cons y L ih => rw [List.sum_cons, this y (List.mem_cons_self ..), ih fun x hx => this x (List.mem_cons_of_mem _ hx)]
theorem readV_any {env : Env} {i : Nat} {v : Val} {k : Fl} (h : eget env i = some (v, k)) (hk : k ≠ .ln) : readV env i = some ((v, false), eset env i (some (v, .sh))) := by
  cases k with
  | sh => rw [readV_sh h]; have := eset_self env i; rw [h] at this; rw [this]
  | ow => exact readV_ow h
  | ln => exact absurd rfl hk
theorem atI_nat {l : List Val} {k : Nat} {v : Val} (h : l[k]? = some v) : atI l (k : Int) = some v := by
  have hl := (List.getElem?_eq_some_iff.mp h).1
  unfold atI ixN
  rw [if_pos (by omega), if_pos (by omega)]
  simpa using h
theorem nats_get {l : List Nat} {k : Nat} (h : k < l.length) : (nats l)[k]? = some (.int (l.getD k 0 : Nat)) := by
  unfold nats
  rw [List.getElem?_map, List.getElem?_eq_getElem h, List.getD_eq_getElem?_getD, List.getElem?_eq_getElem h]
  rfl
theorem nats_len (l : List Nat) : (nats l).length = l.length := by simp [nats]
theorem dpL_at (W : List Nat) (c b : Nat) {k : Nat} (h : k < W.length) : (dpL W c b).getD k 0 = dpv W c b k := by
  simp [dpL, List.getD_eq_getElem?_getD, h]
theorem ev_cmpI {cl : Cl} {env env1 env2 : Env} {a b : E} {x y : Int} {k k' : Bool} {c : Cm} {r : Bool} (ha : ev cl a env = some ((.int x, k), env1)) (hb : ev cl b env1 = some ((.int y, k'), env2)) (h : cmpv c (.int x) (.int y) = some r) : ev cl (.cmp c a b) env = some ((.bool r, false), env2) := by
  simp only [ev_cmp, ha, hb, h, mkB_some]
section
variable (cl : Cl) (u0 u1 u2 u3 u4 : Slot)
theorem hmc_inner (x b : Int) (W : List Nat) (hx : 0 < x.natAbs) (hx2 : x.natAbs < 1000000) (hb : 0 ≤ b) (hb2 : b < 1000000) (hW : W.length < 16000000) : ∀ (l : List Nat) (k : Nat), W.drop k = l → k ≤ W.length → ∀ o10 o11 o12 o13, nl o10 = true → nl o11 = true → nl o12 = true → nl o13 = true →
    ∃ p10 p11 p12 p13, nl p10 = true ∧ nl p11 = true ∧ nl p12 = true ∧ nl p13 = true ∧
      forS cl (.tup (.cons (.name 10) (.cons (.name 11) .nil))) b_how_many_counters_1 (enumL k (nats l)) [u0, u1, u2, u3, u4, some (.lst (nats W), .sh), some (.int x, .sh), some (.int b, .sh), some (.int x.natAbs, .sh), some (.lst (nats ((List.range k).map (dpv W x.natAbs b.toNat))), .ow), o10, o11, o12, o13] =
        some (.nx, [u0, u1, u2, u3, u4, some (.lst (nats W), .sh), some (.int x, .sh), some (.int b, .sh), some (.int x.natAbs, .sh), some (.lst (nats (dpL W x.natAbs b.toNat)), .ow), p10, p11, p12, p13]) := by
  intro l
  induction l with
  | nil =>
    intro k hk hkl o10 o11 o12 o13 h10 h11 h12 h13
    have : k = W.length := by
      have := congrArg List.length hk
      simp at this; omega
    subst this
    exact ⟨o10, o11, o12, o13, h10, h11, h12, h13, rfl⟩
  | cons y l ih =>
    intro k hk hkl o10 o11 o12 o13 h10 h11 h12 h13
    have hkl2 : k < W.length := by
      have := congrArg List.length hk
      simp at this; omega
    have hy : W.getD k 0 = y := by
      have : (W.drop k)[0]? = some y := by rw [hk]; rfl
      rw [List.getElem?_drop] at this
      rw [List.getD_eq_getElem?_getD]; simpa using congrArg (fun z => z.getD 0) this
    have hk2 : W.drop (k + 1) = l := by
      rw [← List.drop_drop, hk]; rfl
    generalize hM : (List.range k).map (dpv W x.natAbs b.toNat) = M
    have hMl : M.length = k := by rw [← hM]; simp
    have hMg : ∀ j, j < k → M.getD j 0 = dpv W x.natAbs b.toNat j := by
      intro j hj; rw [← hM]; simp [List.getD_eq_getElem?_getD, hj]
    have hrec := dpv_rec W (c := x.natAbs) b.toNat k hx
    obtain ⟨p10, p11, p12, p13, q10, q11, q12, q13, hf⟩ := ih (k + 1) hk2 (by omega) (some (.int k, .sh)) (some (.int y, .sh)) (some (.int ((if x.natAbs ≤ k then dpv W x.natAbs b.toNat (k - x.natAbs) else 0 : Nat) : Int), .sh)) (some (.int ((k : Int) - x.natAbs * (b + 1)), .sh)) (by simp) (by simp) (by simp) (by simp)
    refine ⟨p10, p11, p12, p13, q10, q11, q12, q13, ?_⟩
    refine forS_nx (env1 := [u0, u1, u2, u3, u4, some (.lst (nats W), .sh), some (.int x, .sh), some (.int b, .sh), some (.int x.natAbs, .sh), some (.lst (nats M), .ow), some (.int k, .sh), some (.int y, .sh), o12, o13]) (by simp [bind_name, h10, h11]) ?_ hf
    have ha : ev cl (.ite (.cmp .ge (.var 10) (.var 8)) (.idxv 9 (.bin .sub (.var 10) (.var 8))) (.const (.int 0))) [u0, u1, u2, u3, u4, some (.lst (nats W), .sh), some (.int x, .sh), some (.int b, .sh), some (.int x.natAbs, .sh), some (.lst (nats M), .ow), some (.int k, .sh), some (.int y, .sh), o12, o13] =
        some ((.int ((if x.natAbs ≤ k then dpv W x.natAbs b.toNat (k - x.natAbs) else 0 : Nat) : Int), false), [u0, u1, u2, u3, u4, some (.lst (nats W), .sh), some (.int x, .sh), some (.int b, .sh), some (.int x.natAbs, .sh), some (.lst (nats M), .ow), some (.int k, .sh), some (.int y, .sh), o12, o13]) := by
      refine ev_ite' (p := decide (x.natAbs ≤ k)) (boolR_as rfl (by simp)) (fun h => ?_) (fun h => ?_)
      · have h : x.natAbs ≤ k := by simpa using h
        rw [if_pos h, ← hMg _ (by omega)]
        exact ev_idxL rfl (ev_eqv (y := ((k - x.natAbs : Nat) : Int)) (by omega) (ev_sub rfl rfl)) rfl (atI_nat (nats_get (by omega)))
      · have h : ¬ x.natAbs ≤ k := by simpa using h
        rw [if_neg h]; rfl
    refine ex_seq' (ex_asgS ha (by simpa using h12)) (ex_seq' (ex_asgS (ev_sub rfl (ev_mul (okMul_l (by simp; omega)) rfl (ev_add rfl rfl))) (by simpa using h13)) ?_)
    · have hg : ev cl (.ite (.cmp .ge (.var 13) (.const (.int 0))) (.idxv 5 (.var 13)) (.const (.int 0))) [u0, u1, u2, u3, u4, some (.lst (nats W), .sh), some (.int x, .sh), some (.int b, .sh), some (.int x.natAbs, .sh), some (.lst (nats M), .ow), some (.int k, .sh), some (.int y, .sh), some (.int ((if x.natAbs ≤ k then dpv W x.natAbs b.toNat (k - x.natAbs) else 0 : Nat) : Int), .sh), some (.int ((k : Int) - x.natAbs * (b + 1)), .sh)] =
          some ((.int (dpf W x.natAbs k (b.toNat + 1) : Nat), false), [u0, u1, u2, u3, u4, some (.lst (nats W), .sh), some (.int x, .sh), some (.int b, .sh), some (.int x.natAbs, .sh), some (.lst (nats M), .ow), some (.int k, .sh), some (.int y, .sh), some (.int ((if x.natAbs ≤ k then dpv W x.natAbs b.toNat (k - x.natAbs) else 0 : Nat) : Int), .sh), some (.int ((k : Int) - x.natAbs * (b + 1)), .sh)]) := by
        have hbn : b + 1 = ((b.toNat + 1 : Nat) : Int) := by omega
        have hmm : (x.natAbs : Int) * (b + 1) = ((x.natAbs * (b.toNat + 1) : Nat) : Int) := by rw [hbn]; simp
        refine ev_ite' (p := decide (x.natAbs * (b.toNat + 1) ≤ k)) (boolR_as rfl ?_) (fun h => ?_) (fun h => ?_)
        · rw [hmm]; exact decide_eq_decide.mpr (by omega)
        · have h : x.natAbs * (b.toNat + 1) ≤ k := by simpa using h
          have : dpf W x.natAbs k (b.toNat + 1) = W.getD (k - x.natAbs * (b.toNat + 1)) 0 := by unfold dpf; rw [if_pos h]
          rw [this]
          exact ev_idxL rfl (ev_eqv (y := ((k - x.natAbs * (b.toNat + 1) : Nat) : Int)) (by rw [hmm]; omega) rfl) rfl (atI_nat (nats_get (by omega)))
        · have h : ¬ x.natAbs * (b.toNat + 1) ≤ k := by simpa using h
          have : dpf W x.natAbs k (b.toNat + 1) = 0 := by unfold dpf; rw [if_neg h]
          rw [this]; rfl
      refine (ex_appO rfl (ev_eqv (y := (dpv W x.natAbs b.toNat k : Nat)) ?_ (ev_sub (ev_add rfl rfl) hg)) rfl (by rw [nats_len]; omega)).trans ?_
      · rw [hy] at hrec; omega
      · rw [nats_app, ← hM]
        have : (List.range (k + 1)).map (dpv W x.natAbs b.toNat) = (List.range k).map (dpv W x.natAbs b.toNat) ++ [dpv W x.natAbs b.toNat k] := by rw [List.range_succ, List.map_append]; rfl
        rw [this]; rfl
end
def waysL (W : List Nat) (l : List (Int × Int)) : List Nat := l.foldl (fun W q => dpL W q.1.natAbs q.2.toNat) W
theorem dpL_len (W : List Nat) (c b : Nat) : (dpL W c b).length = W.length := by simp [dpL]
theorem waysL_len (l : List (Int × Int)) : ∀ W : List Nat, (waysL W l).length = W.length := by
  induction l with
  | nil => intro W; rfl
  | cons q l ih => intro W; rw [show waysL W (q :: l) = waysL (dpL W q.1.natAbs q.2.toNat) l from rfl, ih, dpL_len]
section
variable (cl : Cl) (u0 u1 u2 u3 u4 : Slot)
theorem hmc_outer : ∀ (l : List (Int × Int)) (W : List Nat), (∀ q ∈ l, 0 < q.1.natAbs ∧ q.1.natAbs < 1000000 ∧ 0 ≤ q.2 ∧ q.2 < 1000000) → W.length < 16000000 → ∀ (k5 : Fl) o6 o7 o8 o9 o10 o11 o12 o13, k5 ≠ .ln → nl o6 = true → nl o7 = true → nl o8 = true → nl o9 = true → nl o10 = true → nl o11 = true → nl o12 = true → nl o13 = true →
    ∃ kk p6 p7 p8 p9 p10 p11 p12 p13, kk ≠ Fl.ln ∧ forS cl (.tup (.cons (.name 6) (.cons (.name 7) .nil))) b_how_many_counters_2 (l.map fun q => .tup [.int q.1, .int q.2]) [u0, u1, u2, u3, u4, some (.lst (nats W), k5), o6, o7, o8, o9, o10, o11, o12, o13] =
        some (.nx, [u0, u1, u2, u3, u4, some (.lst (nats (waysL W l)), kk), p6, p7, p8, p9, p10, p11, p12, p13]) := by
  intro l
  induction l with
  | nil => intro W hl hW k5 o6 o7 o8 o9 o10 o11 o12 o13 hk _ _ _ _ _ _ _ _; exact ⟨k5, o6, o7, o8, o9, o10, o11, o12, o13, hk, rfl⟩
  | cons q l ih =>
    intro W hl hW k5 o6 o7 o8 o9 o10 o11 o12 o13 hk h6 h7 h8 h9 h10 h11 h12 h13
    obtain ⟨q1, q2, q3, q4⟩ := hl q (List.mem_cons_self ..)
    obtain ⟨p10, p11, p12, p13, g10, g11, g12, g13, hin⟩ := hmc_inner cl u0 u1 u2 u3 u4 q.1 q.2 W q1 q2 q3 q4 hW W 0 rfl (Nat.zero_le _) o10 o11 o12 o13 h10 h11 h12 h13
    obtain ⟨k5', p6, p7, p8, p9, r10, r11, r12, r13, hk', hf⟩ := ih (dpL W q.1.natAbs q.2.toNat) (fun x m => hl x (List.mem_cons_of_mem _ m)) (by rw [dpL_len]; exact hW) .sh (some (.int q.1, .sh)) (some (.int q.2, .sh)) (some (.int q.1.natAbs, .sh)) (some (.lst (nats (dpL W q.1.natAbs q.2.toNat)), .sh)) p10 p11 p12 p13 (by simp) (by simp) (by simp) (by simp) (by simp) g10 g11 g12 g13
    refine ⟨k5', p6, p7, p8, p9, r10, r11, r12, r13, hk', ?_⟩
    refine forS_nx (env1 := [u0, u1, u2, u3, u4, some (.lst (nats W), k5), some (.int q.1, .sh), some (.int q.2, .sh), o8, o9, o10, o11, o12, o13]) (by simp [bind_name, h6, h7]) ?_ hf
    have hp : ex cl (.par [8, 9] (.cons (.bcall .abs (.cons (.var 6) .nil)) (.cons (.lst .nil) .nil))) [u0, u1, u2, u3, u4, some (.lst (nats W), k5), some (.int q.1, .sh), some (.int q.2, .sh), o8, o9, o10, o11, o12, o13] =
        some (.nx, [u0, u1, u2, u3, u4, some (.lst (nats W), k5), some (.int q.1, .sh), some (.int q.2, .sh), some (.int q.1.natAbs, .sh), some (.lst [], .ow), o10, o11, o12, o13]) :=
      (ex_par2 (env1 := [u0, u1, u2, u3, u4, some (.lst (nats W), k5), some (.int q.1, .sh), some (.int q.2, .sh), o8, o9, o10, o11, o12, o13]) (env2 := [u0, u1, u2, u3, u4, some (.lst (nats W), k5), some (.int q.1, .sh), some (.int q.2, .sh), o8, o9, o10, o11, o12, o13]) (r := (.int q.1.natAbs, false)) (r' := (.lst [], true)) (ev_abs rfl) rfl (by simpa using h8) (by simpa using h9)).trans rfl
    refine ex_seq' hp (ex_seq' (ex_for' (env1 := [u0, u1, u2, u3, u4, some (.lst (nats W), .sh), some (.int q.1, .sh), some (.int q.2, .sh), some (.int q.1.natAbs, .sh), some (.lst [], .ow), o10, o11, o12, o13]) ?_ hin) ?_)
    · rw [ev_enum, ev_var, readV_any (v := .lst (nats W)) (k := k5) rfl hk]; rfl
    · have h : ex cl (.asg 5 (.var 9)) [u0, u1, u2, u3, u4, some (.lst (nats W), .sh), some (.int q.1, .sh), some (.int q.2, .sh), some (.int q.1.natAbs, .sh), some (.lst (nats (dpL W q.1.natAbs q.2.toNat)), .ow), p10, p11, p12, p13] =
          some (.nx, eset [u0, u1, u2, u3, u4, some (.lst (nats W), .sh), some (.int q.1, .sh), some (.int q.2, .sh), some (.int q.1.natAbs, .sh), some (.lst (nats (dpL W q.1.natAbs q.2.toNat)), .sh), p10, p11, p12, p13] 5 (some (.lst (nats (dpL W q.1.natAbs q.2.toNat)), .sh))) := ex_asgS rfl rfl
      exact h
end
section
variable {F : Nat → Option Fn} {n : Nat} {c b : Val} {cs bs : List Int}
def waysOf (cs bs : List Int) (x : Int) : Nat :=
  if lsum cs bs ≤ x ∧ x ≤ gsum cs bs then (waysL (1 :: List.replicate (gsum cs bs - lsum cs bs).toNat 0) (cs.zip bs)).getD (x - lsum cs bs).toNat 0 else 0
theorem lsum_le (cs bs : List Int) (okb : ∀ x ∈ bs, 0 ≤ x) : lsum cs bs ≤ 0 ∧ 0 ≤ gsum cs bs := by
  unfold lsum gsum
  have : ∀ q ∈ cs.zip bs, 0 ≤ q.2 := fun q hq => okb _ (List.of_mem_zip hq).2
  generalize cs.zip bs = L at this
  induction L with
  | nil => simp
  | cons q L ih =>
    obtain ⟨h1, h2⟩ := ih fun x hx => this x (List.mem_cons_of_mem _ hx)
    have h0 := this q (List.mem_cons_self ..)
    constructor
    · rw [List.filter_cons]
      split
      · rename_i h
        have h : q.1 < 0 := by simpa using h
        rw [List.map_cons, List.sum_cons]
        have := Int.mul_nonneg (show 0 ≤ -q.1 by omega) h0
        rw [Int.neg_mul] at this
        omega
      · exact h1
    · rw [List.filter_cons]
      split
      · rename_i h
        have h : 0 < q.1 := by simpa using h
        rw [List.map_cons, List.sum_cons]
        have := Int.mul_nonneg (show 0 ≤ q.1 by omega) h0
        omega
      · exact h2
theorem q_how_many_counters (h1 : F 1 = some p_least_sum) (h2 : F 2 = some p_greatest_sum) (h10 : F 10 = some p_how_many_counters) {x : Int} (hc : Sq c cs) (hb : Sq b bs) (ok : ∀ x ∈ cs, x ≠ 0 ∧ okc x) (okb : ∀ x ∈ bs, 0 ≤ x ∧ okc x) (hw : gsum cs bs - lsum cs bs ≤ 10000000) :
    clN F (n + 2) 10 false [c, b, .int x] = some ((.int (waysOf cs bs x), false), .none) := by
  have okc' : ∀ x ∈ cs, okc x := fun x hx => (ok x hx).2
  obtain ⟨hl0, hg0⟩ := lsum_le cs bs fun x hx => (okb x hx).1
  have e1 : ex (clN F (n + 1)) (.par [3, 4] (.cons (.call 1 (.cons (.var 0) (.cons (.var 1) .nil))) (.cons (.call 2 (.cons (.var 0) (.cons (.var 1) .nil))) .nil))) [some (c, .sh), some (b, .sh), some (.int x, .sh), none, none, none, none, none, none, none, none, none, none, none] =
      some (.nx, [some (c, .sh), some (b, .sh), some (.int x, .sh), some (.int (lsum cs bs), .sh), some (.int (gsum cs bs), .sh), none, none, none, none, none, none, none, none, none]) :=
    (ex_parS (env2 := [some (c, .sh), some (b, .sh), some (.int x, .sh), none, none, none, none, none, none, none, none, none, none, none]) (ev_call2 rfl rfl (q_least_sum h1 hc hb okc')) (ev_call2 rfl rfl (q_greatest_sum h2 hc hb okc')) rfl rfl).trans rfl
  have e2 : boolR (ev (clN F (n + 1)) (.not (.chain .le .le (.var 3) (.var 2) (.var 4))) [some (c, .sh), some (b, .sh), some (.int x, .sh), some (.int (lsum cs bs), .sh), some (.int (gsum cs bs), .sh), none, none, none, none, none, none, none, none, none]) =
      some (!decide (lsum cs bs ≤ x ∧ x ≤ gsum cs bs), [some (c, .sh), some (b, .sh), some (.int x, .sh), some (.int (lsum cs bs), .sh), some (.int (gsum cs bs), .sh), none, none, none, none, none, none, none, none, none]) := by
    by_cases h : lsum cs bs ≤ x
    · simp [cmpv, cmpI, h]
    · simp [cmpv, cmpI, h]
  by_cases hx : lsum cs bs ≤ x ∧ x ≤ gsum cs bs
  · have hW : (1 :: List.replicate (gsum cs bs - lsum cs bs).toNat 0).length < 16000000 := by simp; omega
    obtain ⟨k5, p6, p7, p8, p9, p10, p11, p12, p13, hk, hf⟩ := hmc_outer (clN F (n + 1)) (some (c, .sh)) (some (b, .sh)) (some (.int x, .sh)) (some (.int (lsum cs bs), .sh)) (some (.int (gsum cs bs), .sh)) (cs.zip bs) (1 :: List.replicate (gsum cs bs - lsum cs bs).toNat 0) (fun q hq => by
      obtain ⟨m1, m2⟩ := List.of_mem_zip hq
      have a1 := ok _ m1
      have a2 := okb _ m2
      unfold okc at a1 a2
      omega) hW .ow none none none none none none none none (by simp) (by simp) (by simp) (by simp) (by simp) (by simp) (by simp) (by simp) (by simp)
    have e3 : ex (clN F (n + 1)) (.asg 5 (.bin .add (.lst (.cons (.const (.int 1)) .nil)) (.bin .mul (.lst (.cons (.const (.int 0)) .nil)) (.bin .sub (.var 4) (.var 3))))) [some (c, .sh), some (b, .sh), some (.int x, .sh), some (.int (lsum cs bs), .sh), some (.int (gsum cs bs), .sh), none, none, none, none, none, none, none, none, none] =
        some (.nx, [some (c, .sh), some (b, .sh), some (.int x, .sh), some (.int (lsum cs bs), .sh), some (.int (gsum cs bs), .sh), some (.lst (nats (1 :: List.replicate (gsum cs bs - lsum cs bs).toNat 0)), .ow), none, none, none, none, none, none, none, none]) := by
      refine (ex_asgO (v := .lst (nats (1 :: List.replicate (gsum cs bs - lsum cs bs).toNat 0))) (env1 := [some (c, .sh), some (b, .sh), some (.int x, .sh), some (.int (lsum cs bs), .sh), some (.int (gsum cs bs), .sh), none, none, none, none, none, none, none, none, none]) ?_ rfl).trans rfl
      have hn : (gsum cs bs - lsum cs bs).natAbs < 9223372036854775808 ∧ 1 * (gsum cs bs - lsum cs bs).toNat ≤ 16777216 := by omega
      have hrep : (List.replicate (gsum cs bs - lsum cs bs).toNat [Val.int 0]).flatten = List.replicate (gsum cs bs - lsum cs bs).toNat (Val.int 0) := by
        generalize (gsum cs bs - lsum cs bs).toNat = m
        induction m with
        | zero => rfl
        | succ m ih => rw [List.replicate_succ, List.flatten_cons, ih]; rfl
      have z := ev_addL (cl := clN F (n + 1)) (a := .lst (.cons (.const (.int 1)) .nil)) (l := [.int 1]) (k := true) (env := [some (c, .sh), some (b, .sh), some (.int x, .sh), some (.int (lsum cs bs), .sh), some (.int (gsum cs bs), .sh), none, none, none, none, none, none, none, none, none]) rfl (ev_mulL (l := [.int 0]) (k := true) (a := .lst (.cons (.const (.int 0)) .nil)) rfl (ev_sub (a := .var 4) (b := .var 3) rfl rfl) hn.1 hn.2) (by rw [hrep]; simp; omega)
      rw [hrep] at z
      refine z.trans ?_
      simp [nats]
    have hat : atI (nats (waysL (1 :: List.replicate (gsum cs bs - lsum cs bs).toNat 0) (cs.zip bs))) ((x - lsum cs bs).toNat : Nat) = some (.int (waysOf cs bs x)) := by
      unfold waysOf
      rw [if_pos hx]
      exact atI_nat (nats_get (by rw [waysL_len]; simp; omega))
    exact cl_ret h10 rfl (ex_seq' e1 (ex_seq' (ex_if e2 (fun h => absurd h (by simpa using hx)) fun _ => ex_skip) (ex_seq' e3 (ex_seq' (ex_for' (it_zip rfl rfl hc hb) hf) (ex_ret' rfl (ev_idxL rfl (ev_eqv (y := ((x - lsum cs bs).toNat : Nat)) (by omega) (ev_sub rfl rfl)) rfl hat))))))
  · unfold waysOf
    rw [if_neg hx]
    refine cl_ret h10 rfl (ex_seq' e1 (ex_seqR (ex_if e2 (fun h => ex_ret' rfl rfl) fun h => absurd h (by simpa using hx))))
end
end QS

end
section
set_option Elab.async false
set_option linter.all false
set_option maxRecDepth 100000
/-! classes_by: least heaps by remainders -/
namespace QS
open PySem (Str)
open Q
/-! ### dicts of numbers -/
abbrev D := List (Int × Int)
def dget : D → Int → Option Int
  | [], _ => none
  | q :: d, r => if q.1 = r then some q.2 else dget d r
def dhas (d : D) (r : Int) : Bool := d.any fun q => decide (q.1 = r)
def drep : D → Int → Int → D
  | [], _, _ => []
  | q :: d, r, v => (q.1, if q.1 = r then v else q.2) :: drep d r v
def dput (d : D) (r v : Int) : D := if dhas d r = true then drep d r v else d ++ [(r, v)]
def dk (d : D) : List Key := d.map fun q => .inl q.1
def dvs (d : D) : List Val := d.map fun q => .int q.2
def dv (d : D) : Val := .dict (dk d) (dvs d)
theorem look_d (d : D) (r : Int) : look (dk d) (dvs d) (.inl r) = (dget d r).map .int := by
  induction d with
  | nil => rfl
  | cons q d ih =>
    show (if (Sum.inl q.1 : Key) = .inl r then some (Val.int q.2) else look (dk d) (dvs d) (.inl r)) = _
    unfold dget
    by_cases h : q.1 = r
    · rw [if_pos (by rw [h]), if_pos h]; rfl
    · rw [if_neg (by intro e; exact h (Sum.inl.inj e)), if_neg h, ih]
theorem hasK_d (d : D) (r : Int) : hasK (dk d) (.inl r) = dhas d r := by
  unfold hasK dhas dk
  rw [List.any_map]
  congr 1
  funext q
  exact decide_eq_decide.mpr ⟨fun e => Sum.inl.inj e, fun e => congrArg Sum.inl e⟩
theorem replK_d (d : D) (r v : Int) : replK (dk d) (dvs d) (.inl r) (.int v) = dvs (drep d r v) := by
  induction d with
  | nil => rfl
  | cons q d ih =>
    show (if (Sum.inl q.1 : Key) = .inl r then Val.int v else .int q.2) :: replK (dk d) (dvs d) (.inl r) (.int v) = _
    rw [ih]
    show _ = Val.int (if q.1 = r then v else q.2) :: dvs (drep d r v)
    by_cases h : q.1 = r
    · rw [if_pos (by rw [h]), if_pos h]
    · rw [if_neg (by intro e; exact h (Sum.inl.inj e)), if_neg h]
theorem dk_rep (d : D) (r v : Int) : dk (drep d r v) = dk d := by
  induction d with
  | nil => rfl
  | cons q d ih => show (Sum.inl q.1 : Key) :: dk (drep d r v) = Sum.inl q.1 :: dk d; rw [ih]
theorem putK_d (d : D) (r v : Int) : putK (dk d) (dvs d) (.inl r) (.int v) = (dk (dput d r v), dvs (dput d r v)) := by
  unfold putK dput
  rw [hasK_d]
  split
  · rw [replK_d, dk_rep]
  · simp [dk, dvs]
theorem dget_has (d : D) (r : Int) : (dget d r).isSome = dhas d r := by
  induction d with
  | nil => rfl
  | cons q d ih =>
    unfold dget dhas
    rw [List.any_cons]
    by_cases h : q.1 = r
    · simp [h]
    · simp only [h, if_false, decide_false, Bool.false_or]; exact ih
theorem dget_rep (d : D) (r v r' : Int) : dget (drep d r v) r' = if r' = r then (if dhas d r = true then some v else none) else dget d r' := by
  induction d with
  | nil => simp [drep, dget, dhas]
  | cons q d ih =>
    unfold drep dget
    rw [ih]
    unfold dhas
    rw [List.any_cons]
    by_cases h2 : r' = r
    · subst h2
      by_cases h : q.1 = r'
      · simp [h]
      · have hd : decide (q.1 = r') = false := decide_eq_false h
        simp only [h, if_false, if_true, hd, Bool.false_or]
        rfl
    · by_cases h : q.1 = r'
      · have h3 : ¬ q.1 = r := fun e => h2 (by rw [← h, e])
        simp [h, h2, h3]
      · simp [h, h2]
theorem dget_app (d : D) (r v r' : Int) : dget (d ++ [(r, v)]) r' = match dget d r' with | some x => some x | none => if r = r' then some v else none := by
  induction d with
  | nil => rfl
  | cons q d ih =>
    rw [List.cons_append]
    unfold dget
    by_cases h : q.1 = r'
    · simp [h]
    · simp only [h, if_false]; exact ih
theorem dget_put (d : D) (r v r' : Int) : dget (dput d r v) r' = if r' = r then some v else dget d r' := by
  unfold dput
  split
  · rename_i h
    rw [dget_rep, h]; simp
  · rename_i h
    rw [dget_app]
    have h2 : dget d r = none := by
      have := dget_has d r
      cases e : dget d r with
      | none => rfl
      | some x => rw [e] at this; exact absurd this.symm h
    by_cases e : r' = r
    · subst e; simp [h2]
    · have : ¬ r = r' := fun z => e z.symm
      simp only [e, this, if_false]
      cases dget d r' <;> rfl
theorem dput_len (d : D) (r v : Int) : (dput d r v).length = if dhas d r = true then d.length else d.length + 1 := by
  unfold dput
  have : ∀ d : D, (drep d r v).length = d.length := by
    intro d; induction d with
    | nil => rfl
    | cons q d ih => simp [drep, ih]
  split <;> simp [this]
/-- the dict's keys, each once -/
def dnd (d : D) : Prop := (d.map (·.1)).Nodup
theorem dhas_mem (d : D) (r : Int) : dhas d r = true ↔ r ∈ d.map (·.1) := by
  unfold dhas
  simp only [List.any_eq_true, decide_eq_true_eq, List.mem_map]
theorem dput_keys (d : D) (r v : Int) : (dput d r v).map (·.1) = if dhas d r = true then d.map (·.1) else d.map (·.1) ++ [r] := by
  unfold dput
  have : ∀ d : D, (drep d r v).map (·.1) = d.map (·.1) := by
    intro d; induction d with
    | nil => rfl
    | cons q d ih => simp [drep, ih]
  split <;> simp [this]
theorem dnd_put {d : D} (h : dnd d) (r v : Int) : dnd (dput d r v) := by
  unfold dnd at h ⊢
  rw [dput_keys]
  split
  · exact h
  · rename_i hh
    rw [List.nodup_append]
    refine ⟨h, by simp, fun a ha b hb => ?_⟩
    simp at hb; subst hb
    intro e; subst e; exact hh ((dhas_mem d _).mpr ha)
theorem dget_mem {d : D} {r v : Int} (h : dget d r = some v) : (r, v) ∈ d := by
  induction d with
  | nil => cases h
  | cons q d ih =>
    unfold dget at h
    split at h
    · rename_i e; cases h; rw [← e]; exact List.mem_cons_self ..
    · exact List.mem_cons_of_mem _ (ih h)
theorem mem_dget {d : D} (hd : dnd d) {r v : Int} (h : (r, v) ∈ d) : dget d r = some v := by
  induction d with
  | nil => cases h
  | cons q d ih =>
    unfold dget
    have hd2 : q.1 ∉ d.map (·.1) ∧ (d.map (·.1)).Nodup := by simpa [dnd] using hd
    rcases List.mem_cons.mp h with rfl | h
    · simp
    · rw [if_neg (fun e => hd2.1 (by rw [e]; exact List.mem_map_of_mem (f := (·.1)) h))]
      exact ih hd2.2 h
end QS

end
section
set_option Elab.async false
set_option linter.all false
set_option maxRecDepth 100000
/-! classes_by: what it leaves -/
namespace QS
open PySem (Str)
open Q
/-- a sum of some of the numbers, each any times -/
inductive HeapR (ss : List Int) : Int → Prop where
  | zero : HeapR ss 0
  | add {h s : Int} : HeapR ss h → s ∈ ss → HeapR ss (h + s)
theorem HeapR.nonneg {ss : List Int} (pos : ∀ s ∈ ss, 0 < s) {h : Int} (H : HeapR ss h) : 0 ≤ h := by
  induction H with
  | zero => omega
  | add _ hs ih => have := pos _ hs; omega
def Le_ (L L' : D) : Prop := ∀ r w, dget L r = some w → ∃ w', dget L' r = some w' ∧ w' ≤ w
def ClF (L : D) (sz v own : Int) : Prop := ∃ w, dget L ((v + own) % sz) = some w ∧ w ≤ v + own
structure CI (ss : List Int) (sz mx : Int) (L T : D) (fr : List Int) (h0 : Int) (dn : List Int) : Prop where
  nd : dnd L
  v0 : dget L 0 = some 0
  val : ∀ r v, dget L r = some v → 0 ≤ v ∧ v % sz = r ∧ HeapR ss v ∧ v ≤ ((L.length : Int) - 1) * mx
  frq : ∀ h ∈ fr, 0 ≤ h ∧ ∃ w, dget L (h % sz) = some w ∧ w ≤ h
  clo : ∀ r v, dget L r = some v → v ∈ fr ∨ (∀ own ∈ ss, ClF L sz v own) ∨ (v = h0 ∧ ∀ own ∈ dn, ClF L sz v own)
  last : ∀ r v, dget L r = some v → 0 < v → ∃ own, dget T r = some own ∧ own ∈ ss ∧ own ≤ v ∧ ∃ w, dget L ((v - own) % sz) = some w ∧ w ≤ v - own
theorem ClF.mono {L L' : D} (m : Le_ L L') {sz v own : Int} (c : ClF L sz v own) : ClF L' sz v own := by
  obtain ⟨w, h1, h2⟩ := c
  obtain ⟨w', h3, h4⟩ := m _ _ h1
  exact ⟨w', h3, by omega⟩
section
variable {ss : List Int} {sz mx : Int} {L T : D} {fr : List Int} {h0 : Int} {dn : List Int}
theorem CI.len_le (c : CI ss sz mx L T fr h0 dn) (hs : 0 < sz) : (L.length : Int) ≤ sz := by
  have hk : ∀ k ∈ L.map (·.1), 0 ≤ k ∧ k < sz := by
    intro k hk
    obtain ⟨q, hq, rfl⟩ := List.mem_map.mp hk
    obtain ⟨v1, v2, _⟩ := c.val q.1 q.2 (mem_dget c.nd hq)
    rw [← v2]
    exact ⟨Int.emod_nonneg _ (by omega), Int.emod_lt_of_pos _ hs⟩
  have e := (List.perm_ext_iff_of_nodup (α := Int) (l₁ := L.map (fun q : Int × Int => q.1)) (l₂ := (((List.range sz.toNat).map fun (k : Nat) => (k : Int)).filter fun k => decide (k ∈ L.map (·.1)))) c.nd
    (List.Pairwise.filter _ (List.Pairwise.map _ (fun a b h => by show (a : Int) ≠ b; omega) List.nodup_range))).mpr fun k => by
      simp only [List.mem_filter, decide_eq_true_eq, List.mem_map, List.mem_range]
      constructor
      · intro h
        obtain ⟨q, hq, rfl⟩ := h
        obtain ⟨h1, h2⟩ := hk q.1 (List.mem_map_of_mem (f := (·.1)) hq)
        exact ⟨⟨q.1.toNat, by omega, by omega⟩, q, hq, rfl⟩
      · exact fun h => h.2
  have l1 := e.length_eq
  have l2 := List.length_filter_le (fun k => decide (k ∈ L.map (·.1))) ((List.range sz.toNat).map fun (k : Nat) => (k : Int))
  simp only [List.length_map, List.length_range] at l1 l2
  omega
/-- an update -/
theorem CI.upd (c : CI ss sz mx L T fr h0 dn) (hs : 0 < sz) (hm : ∀ s ∈ ss, 0 < s ∧ s ≤ mx) (hh : dget L (h0 % sz) = some h0) {s : Int} (hss : s ∈ ss) (hlt : ∀ w, dget L ((h0 + s) % sz) = some w → h0 + s < w) :
    CI ss sz mx (dput L ((h0 + s) % sz) (h0 + s)) (dput T ((h0 + s) % sz) s) (fr ++ [h0 + s]) h0 (dn ++ [s]) ∧ dget (dput L ((h0 + s) % sz) (h0 + s)) (h0 % sz) = some h0 ∧
      (∀ r, r ≠ (h0 + s) % sz → dget (dput L ((h0 + s) % sz) (h0 + s)) r = dget L r) ∧ h0 + s < sz * mx := by
  obtain ⟨g1, g2, g3, g4⟩ := c.val _ _ hh
  obtain ⟨s1, s2⟩ := hm s hss
  have hr : h0 % sz ≠ (h0 + s) % sz := fun e => by
    have := hlt h0 (by rw [← e]; exact hh)
    omega
  have mono : Le_ L (dput L ((h0 + s) % sz) (h0 + s)) := fun r w hw => by
    rw [dget_put]
    by_cases e : r = (h0 + s) % sz
    · subst e
      exact ⟨h0 + s, by simp, by have := hlt _ hw; omega⟩
    · exact ⟨w, by simp [e, hw], by omega⟩
  have hlen : (L.length : Int) ≤ ((dput L ((h0 + s) % sz) (h0 + s)).length : Int) := by rw [dput_len]; split <;> omega
  have hmx : 0 ≤ mx := by omega
  have hL1 : (1 : Int) ≤ L.length := by
    have := dget_mem c.v0
    have := List.length_pos_of_mem this
    omega
  have nr0 : (0 : Int) ≠ (h0 + s) % sz := fun e => by
    have := hlt 0 (by rw [← e]; exact c.v0)
    omega
  have vb : h0 + s ≤ (((dput L ((h0 + s) % sz) (h0 + s)).length : Int) - 1) * mx := by
    rw [dput_len]
    split
    · rename_i hhas
      have := dget_has L ((h0 + s) % sz)
      rw [hhas] at this
      obtain ⟨w, hw⟩ := Option.isSome_iff_exists.mp this
      have h1 := hlt _ hw
      obtain ⟨_, _, _, h2⟩ := c.val _ _ hw
      omega
    · have : ((L.length + 1 : Nat) : Int) - 1 = ((L.length : Int) - 1) + 1 := by omega
      rw [this, Int.add_mul, Int.one_mul]
      omega
  have c' : CI ss sz mx (dput L ((h0 + s) % sz) (h0 + s)) (dput T ((h0 + s) % sz) s) (fr ++ [h0 + s]) h0 (dn ++ [s]) := by
    refine ⟨dnd_put c.nd _ _, by rw [dget_put, if_neg nr0]; exact c.v0, fun r v hv => ?_, fun h hmem => ?_, fun r v hv => ?_, fun r v hv hpos => ?_⟩
    · rw [dget_put] at hv
      split at hv
      · rename_i e
        cases hv
        exact ⟨by omega, e.symm, g3.add hss, vb⟩
      · obtain ⟨a1, a2, a3, a4⟩ := c.val r v hv
        refine ⟨a1, a2, a3, Int.le_trans a4 (Int.mul_le_mul_of_nonneg_right (by omega) hmx)⟩
    · rcases List.mem_append.mp hmem with hmem | hmem
      · obtain ⟨a0, w, h1, h2⟩ := c.frq h hmem
        obtain ⟨w', h3, h4⟩ := mono _ _ h1
        exact ⟨a0, w', h3, by omega⟩
      · have : h = h0 + s := by simpa using hmem
        subst this
        exact ⟨by omega, h0 + s, by rw [dget_put, if_pos rfl], by omega⟩
    · rw [dget_put] at hv
      split at hv
      · cases hv
        exact .inl (by simp)
      · rcases c.clo r v hv with h | h | ⟨h, h2⟩
        · exact .inl (by simp [h])
        · exact .inr (.inl fun own ho => (h own ho).mono mono)
        · refine .inr (.inr ⟨h, fun own ho => ?_⟩)
          rcases List.mem_append.mp ho with ho | ho
          · exact (h2 own ho).mono mono
          · have : own = s := by simpa using ho
            subst this; subst h
            exact ⟨v + own, by rw [dget_put, if_pos rfl], by omega⟩
    · rw [dget_put] at hv
      split at hv
      · rename_i e
        cases hv
        subst e
        obtain ⟨w', h3, h4⟩ := mono _ _ hh
        exact ⟨s, by rw [dget_put, if_pos rfl], hss, by omega, w', by rw [Int.add_sub_cancel]; exact h3, by omega⟩
      · rename_i e
        obtain ⟨own, o1, o2, o3, w, h1, h2⟩ := c.last r v hv hpos
        obtain ⟨w', h3, h4⟩ := mono _ _ h1
        exact ⟨own, by rw [dget_put, if_neg e]; exact o1, o2, o3, w', h3, by omega⟩
  refine ⟨c', by rw [dget_put, if_neg hr]; exact hh, fun r hr => by rw [dget_put, if_neg hr], ?_⟩
  have l2 := c'.len_le hs
  have l3 : (((dput L ((h0 + s) % sz) (h0 + s)).length : Int) - 1) * mx ≤ (sz - 1) * mx := Int.mul_le_mul_of_nonneg_right (by omega) hmx
  have l4 : (sz - 1) * mx = sz * mx - mx := by rw [Int.sub_mul, Int.one_mul]
  omega
/-- none -/
theorem CI.skip (c : CI ss sz mx L T fr h0 dn) {s : Int} (hs : ∃ w, dget L ((h0 + s) % sz) = some w ∧ w ≤ h0 + s) : CI ss sz mx L T fr h0 (dn ++ [s]) :=
  ⟨c.nd, c.v0, c.val, c.frq, fun r v hv => by
    rcases c.clo r v hv with h | h | ⟨h, h2⟩
    · exact .inl h
    · exact .inr (.inl h)
    · refine .inr (.inr ⟨h, fun own ho => ?_⟩)
      rcases List.mem_append.mp ho with ho | ho
      · exact h2 own ho
      · have : own = s := by simpa using ho
        subst this; subst h
        exact hs, c.last⟩
end
/-! ### the measure -/
def phi (n : Nat) (B : Int) (L : D) : Nat := ((List.range n).map fun (k : Nat) => ((dget L k).getD B).toNat).sum
theorem sum_range_lt {f g : Nat → Nat} {k0 : Nat} : ∀ (n : Nat), (∀ k, k ≠ k0 → f k = g k) → f k0 + 1 ≤ g k0 → k0 < n → ((List.range n).map f).sum + 1 ≤ ((List.range n).map g).sum := by
  intro n
  induction n with
  | zero => intro _ _ h; omega
  | succ n ih =>
    intro h1 h2 h3
    rw [List.range_succ, List.map_append, List.map_append, List.sum_append, List.sum_append]
    simp only [List.map_cons, List.map_nil, List.sum_cons, List.sum_nil, Nat.add_zero]
    by_cases e : k0 = n
    · subst e
      have : (List.range k0).map f = (List.range k0).map g := List.map_congr_left fun k hk => h1 k (by have := List.mem_range.mp hk; omega)
      rw [this]; omega
    · have := ih h1 h2 (by omega)
      have := h1 n (fun z => e z.symm)
      omega
theorem phi_upd {L : D} {sz mx r v : Int} (hs : 0 < sz) (h0 : 0 ≤ v) (hr : v % sz = r) (hlt : ∀ w, dget L r = some w → v < w) (hB : v < sz * mx) : phi sz.toNat (sz * mx) (dput L r v) + 1 ≤ phi sz.toNat (sz * mx) L := by
  have hr0 : 0 ≤ r := by rw [← hr]; exact Int.emod_nonneg _ (by omega)
  have hr1 : r < sz := by rw [← hr]; exact Int.emod_lt_of_pos _ hs
  refine sum_range_lt (k0 := r.toNat) sz.toNat (fun k hk => ?_) ?_ (by omega)
  · rw [dget_put, if_neg (by omega)]
  · rw [show ((r.toNat : Nat) : Int) = r by omega, dget_put, if_pos rfl]
    simp only [Option.getD_some]
    cases e : dget L r with
    | none => simp only [Option.getD_none]; omega
    | some w => simp only [Option.getD_some]; have := hlt w e; omega
end QS

end
section
set_option Elab.async false
set_option linter.all false
set_option maxRecDepth 100000
/-! classes_by: the walk -/
namespace QS
open PySem (Str)
open Q
section
variable {cl : Cl} {env env1 env2 : Env} {a b : E}
theorem ev_modE {x y : Int} {k k' : Bool} (h : 0 < y) (ha : ev cl a env = some ((.int x, k), env1)) (hb : ev cl b env1 = some ((.int y, k'), env2)) : ev cl (.bin .mod a b) env = some ((.int (x % y), false), env2) := by
  have := ev_mod (by omega) ha hb
  rw [Int.fmod_eq_emod_of_nonneg _ (by omega)] at this
  exact this
theorem ev_getd {i : Nat} {d : D} {r x : Int} {k k' : Bool} {f : Fl} (hh : hasD env i = true) (ha : ev cl a env = some ((.int r, k), env1)) (hb : ev cl b env1 = some ((.int x, k'), env2)) (hd : eget env2 i = some (dv d, f)) :
    ev cl (.getv i (.cons a (.cons b .nil))) env = some ((.int ((dget d r).getD x), false), env2) := by
  simp only [ev_getv, hh, if_true, evs_cons, ha, hb, evs_nil, hd, vals_cons, vals_nil, dv, mGet, asKey, look_d]
  cases dget d r <;> rfl
theorem ev_idxD {i : Nat} {d : D} {r w : Int} {k : Bool} {f : Fl} (hh : has env i = true) (ha : ev cl a env = some ((.int r, k), env1)) (hd : eget env1 i = some (dv d, f)) (hw : dget d r = some w) :
    ev cl (.idxv i a) env = some ((.int w, false), env1) := by
  simp only [ev_idxv, hh, if_true, ha, hd, dv, idxV, asKey, look_d, hw, Option.map_some, mkV_some]
theorem setV_d {d : D} {r v : Int} (h : d.length < 16777216) : setV (dv d) (.int r) (.int v) = some (dv (dput d r v)) := by
  have h2 : (dk d).length < 16777216 := by simpa [dk] using h
  simp only [dv, setV, asKey, h2, if_true, putK_d]
end
def frs (l : List Int) : List Val := l.map .int
section
variable (cl : Cl) (v : Val) {ss : List Int} {sz mx : Int}
theorem cb_inner (hs : 0 < sz) (hm : ∀ s ∈ ss, 0 < s ∧ s ≤ mx) (hsz : sz < 1000000) (h0 : Int) : ∀ (l dn : List Int) (L T : D) (fr : List Int), (∀ s ∈ l, s ∈ ss) → CI ss sz mx L T fr h0 dn → dget L (h0 % sz) = some h0 → T.length ≤ L.length → phi sz.toNat (sz * mx) L + fr.length < 10000000 → ∀ o6 o7, nl o6 = true → nl o7 = true →
    ∃ L' T' fr' p6 p7, nl p6 = true ∧ nl p7 = true ∧ CI ss sz mx L' T' fr' h0 (dn ++ l) ∧ T'.length ≤ L'.length ∧ phi sz.toNat (sz * mx) L' + fr'.length ≤ phi sz.toNat (sz * mx) L + fr.length ∧
      forS cl (.name 6) b_classes_by_1 (l.map .int) [some (v, .sh), some (.int sz, .sh), some (dv L, .ow), some (dv T, .ow), some (.lst (frs fr), .ow), some (.int h0, .sh), o6, o7] =
        some (.nx, [some (v, .sh), some (.int sz, .sh), some (dv L', .ow), some (dv T', .ow), some (.lst (frs fr'), .ow), some (.int h0, .sh), p6, p7]) := by
  intro l
  induction l with
  | nil => intro dn L T fr hl c hh hTL hp o6 o7 h6 h7; exact ⟨L, T, fr, o6, o7, h6, h7, by simpa using c, hTL, Nat.le_refl _, rfl⟩
  | cons s l ih =>
    intro dn L T fr hl c hh hTL hp o6 o7 h6 h7
    have hss := hl s (List.mem_cons_self ..)
    obtain ⟨s1, s2⟩ := hm s hss
    have hh0 := (c.val _ _ hh).1
    have e1 : bindT (.name 6) (.int s) [some (v, .sh), some (.int sz, .sh), some (dv L, .ow), some (dv T, .ow), some (.lst (frs fr), .ow), some (.int h0, .sh), o6, o7] = some [some (v, .sh), some (.int sz, .sh), some (dv L, .ow), some (dv T, .ow), some (.lst (frs fr), .ow), some (.int h0, .sh), some (.int s, .sh), o7] := by
      simp [bind_name, h6]
    have e2 : ex cl (.asg 7 (.bin .add (.var 5) (.var 6))) [some (v, .sh), some (.int sz, .sh), some (dv L, .ow), some (dv T, .ow), some (.lst (frs fr), .ow), some (.int h0, .sh), some (.int s, .sh), o7] = some (.nx, [some (v, .sh), some (.int sz, .sh), some (dv L, .ow), some (dv T, .ow), some (.lst (frs fr), .ow), some (.int h0, .sh), some (.int s, .sh), some (.int (h0 + s), .sh)]) :=
      (ex_asgS (env1 := [some (v, .sh), some (.int sz, .sh), some (dv L, .ow), some (dv T, .ow), some (.lst (frs fr), .ow), some (.int h0, .sh), some (.int s, .sh), o7]) (ev_add rfl rfl) (by simpa using h7)).trans rfl
    have hmod : ∀ (L T : D) (fr : List Int), ev cl (.bin .mod (.var 7) (.var 1)) [some (v, .sh), some (.int sz, .sh), some (dv L, .ow), some (dv T, .ow), some (.lst (frs fr), .ow), some (.int h0, .sh), some (.int s, .sh), some (.int (h0 + s), .sh)] = some ((.int ((h0 + s) % sz), false), [some (v, .sh), some (.int sz, .sh), some (dv L, .ow), some (dv T, .ow), some (.lst (frs fr), .ow), some (.int h0, .sh), some (.int s, .sh), some (.int (h0 + s), .sh)]) := fun L T fr => ev_modE hs rfl rfl
    have hc : boolR (ev cl (.cmp .lt (.var 7) (.getv 2 (.cons (.bin .mod (.var 7) (.var 1)) (.cons (.bin .add (.var 7) (.const (.int 1))) .nil)))) [some (v, .sh), some (.int sz, .sh), some (dv L, .ow), some (dv T, .ow), some (.lst (frs fr), .ow), some (.int h0, .sh), some (.int s, .sh), some (.int (h0 + s), .sh)]) =
        some (decide (h0 + s < (dget L ((h0 + s) % sz)).getD (h0 + s + 1)), [some (v, .sh), some (.int sz, .sh), some (dv L, .ow), some (dv T, .ow), some (.lst (frs fr), .ow), some (.int h0, .sh), some (.int s, .sh), some (.int (h0 + s), .sh)]) :=
      boolR_as (ev_cmpI rfl (ev_getd rfl (hmod L T fr) (ev_add rfl rfl) rfl) rfl) rfl
    have hLs := c.len_le hs
    by_cases hlt : h0 + s < (dget L ((h0 + s) % sz)).getD (h0 + s + 1)
    · have hlt' : ∀ w, dget L ((h0 + s) % sz) = some w → h0 + s < w := fun w hw => by rw [hw] at hlt; exact hlt
      obtain ⟨c', hh', _, hB⟩ := c.upd hs hm hh hss hlt'
      have hph := phi_upd hs (by omega) rfl hlt' hB
      have hT2 : (dput T ((h0 + s) % sz) s).length ≤ (dput L ((h0 + s) % sz) (h0 + s)).length := by
        rw [dput_len, dput_len]
        by_cases q1 : dhas L ((h0 + s) % sz) = true
        · rw [if_pos q1]
          obtain ⟨w, hw⟩ := Option.isSome_iff_exists.mp ((dget_has L ((h0 + s) % sz)).trans q1)
          have : dhas T ((h0 + s) % sz) = true := by
            have hw0 := hlt' w hw
            obtain ⟨own, o1, _⟩ := c.last _ w hw (by omega)
            rw [← dget_has, o1]; rfl
          rw [if_pos this]; exact hTL
        · rw [if_neg q1]; split <;> omega
      obtain ⟨L', T', fr', p6, p7, g6, g7, cc, hTL', hpp, hf⟩ := ih (dn ++ [s]) (dput L ((h0 + s) % sz) (h0 + s)) (dput T ((h0 + s) % sz) s) (fr ++ [h0 + s]) (fun x m => hl x (List.mem_cons_of_mem _ m)) c' hh' hT2 (by simp; omega) (some (.int s, .sh)) (some (.int (h0 + s), .sh)) (by simp) (by simp)
      refine ⟨L', T', fr', p6, p7, g6, g7, by simpa using cc, hTL', by simp at hpp; omega, forS_nx e1 (ex_seq' e2 (ex_if hc (fun _ => ?_) fun h => absurd hlt (by simpa using h))) hf⟩
      have e3 : ex cl (.seti2 2 (.bin .mod (.var 7) (.var 1)) 3 (.bin .mod (.var 7) (.var 1)) (.tup (.cons (.var 7) (.cons (.var 6) .nil)))) [some (v, .sh), some (.int sz, .sh), some (dv L, .ow), some (dv T, .ow), some (.lst (frs fr), .ow), some (.int h0, .sh), some (.int s, .sh), some (.int (h0 + s), .sh)] =
          some (.nx, [some (v, .sh), some (.int sz, .sh), some (dv (dput L ((h0 + s) % sz) (h0 + s)), .ow), some (dv (dput T ((h0 + s) % sz) s), .ow), some (.lst (frs fr), .ow), some (.int h0, .sh), some (.int s, .sh), some (.int (h0 + s), .sh)]) := by
        have ht : ev cl (.tup (.cons (.var 7) (.cons (.var 6) .nil))) [some (v, .sh), some (.int sz, .sh), some (dv L, .ow), some (dv T, .ow), some (.lst (frs fr), .ow), some (.int h0, .sh), some (.int s, .sh), some (.int (h0 + s), .sh)] = some ((.tup [.int (h0 + s), .int s], false), [some (v, .sh), some (.int sz, .sh), some (dv L, .ow), some (dv T, .ow), some (.lst (frs fr), .ow), some (.int h0, .sh), some (.int s, .sh), some (.int (h0 + s), .sh)]) := rfl
        have c1 : chg [some (v, .sh), some (.int sz, .sh), some (dv L, .ow), some (dv T, .ow), some (.lst (frs fr), .ow), some (.int h0, .sh), some (.int s, .sh), some (.int (h0 + s), .sh)] 2 (fun u => setV u (.int ((h0 + s) % sz)) (.int (h0 + s))) = some [some (v, .sh), some (.int sz, .sh), some (dv (dput L ((h0 + s) % sz) (h0 + s)), .ow), some (dv T, .ow), some (.lst (frs fr), .ow), some (.int h0, .sh), some (.int s, .sh), some (.int (h0 + s), .sh)] := by
          simp only [chg, eget, setV_d (show L.length < 16777216 by omega), eset]
        have c2 : chg [some (v, .sh), some (.int sz, .sh), some (dv (dput L ((h0 + s) % sz) (h0 + s)), .ow), some (dv T, .ow), some (.lst (frs fr), .ow), some (.int h0, .sh), some (.int s, .sh), some (.int (h0 + s), .sh)] 3 (fun u => setV u (.int ((h0 + s) % sz)) (.int s)) = some [some (v, .sh), some (.int sz, .sh), some (dv (dput L ((h0 + s) % sz) (h0 + s)), .ow), some (dv (dput T ((h0 + s) % sz) s), .ow), some (.lst (frs fr), .ow), some (.int h0, .sh), some (.int s, .sh), some (.int (h0 + s), .sh)] := by
          simp only [chg, eget, setV_d (show T.length < 16777216 by omega), eset]
        simp only [ex_seti2, ht, has, eget, Option.isSome_some, if_true, hmod, c1, c2, nxt_some]
      have hfr : (frs fr).length < 16777216 := by simp [frs]; omega
      refine ex_seq' e3 ((ex_appO rfl rfl rfl hfr).trans ?_)
      simp [frs]
    · obtain ⟨w, hw, hle⟩ : ∃ w, dget L ((h0 + s) % sz) = some w ∧ w ≤ h0 + s := by
        cases e : dget L ((h0 + s) % sz) with
        | none => rw [e] at hlt; simp at hlt; omega
        | some w => rw [e] at hlt; exact ⟨w, rfl, by simpa using hlt⟩
      obtain ⟨L', T', fr', p6, p7, g6, g7, cc, hTL', hpp, hf⟩ := ih (dn ++ [s]) L T fr (fun x m => hl x (List.mem_cons_of_mem _ m)) (c.skip ⟨w, hw, hle⟩) hh hTL hp (some (.int s, .sh)) (some (.int (h0 + s), .sh)) (by simp) (by simp)
      exact ⟨L', T', fr', p6, p7, g6, g7, by simpa using cc, hTL', hpp, forS_nx e1 (ex_seq' e2 (ex_if hc (fun h => absurd (by simpa using h) hlt) fun _ => ex_skip)) hf⟩
theorem CI.pop {L T : D} {fr : List Int} {h h1 : Int} {dn : List Int} (c : CI ss sz mx L T (h :: fr) h1 dn) (hd : ∀ s ∈ ss, s ∈ dn) : CI ss sz mx L T fr h (if dget L (h % sz) = some h then [] else ss) := by
  refine ⟨c.nd, c.v0, c.val, fun x hx => c.frq x (List.mem_cons_of_mem _ hx), fun r v hv => ?_, c.last⟩
  rcases c.clo r v hv with z | z | ⟨_, z⟩
  · rcases List.mem_cons.mp z with rfl | z
    · refine .inr (.inr ⟨rfl, ?_⟩)
      have := (c.val r v hv).2.1
      rw [this, hv]; simp
    · exact .inl z
  · exact .inr (.inl z)
  · exact .inr (.inl fun own ho => z own (hd own ho))
/-- what classes_by leaves -/
structure CF (ss : List Int) (sz : Int) (L T : D) : Prop where
  nd : dnd L
  v0 : dget L 0 = some 0
  val : ∀ r v, dget L r = some v → 0 ≤ v ∧ v % sz = r ∧ HeapR ss v
  clo : ∀ r v, dget L r = some v → ∀ own ∈ ss, ClF L sz v own
  last : ∀ r v, dget L r = some v → 0 < v → ∃ own, dget T r = some own ∧ own ∈ ss ∧ own ≤ v ∧ dget L ((v - own) % sz) = some (v - own)
theorem CI.fin {L T : D} {h1 : Int} {dn : List Int} (c : CI ss sz mx L T [] h1 dn) (hd : ∀ s ∈ ss, s ∈ dn) : CF ss sz L T := by
  have cl : ∀ r v, dget L r = some v → ∀ own ∈ ss, ClF L sz v own := fun r v hv => by
    rcases c.clo r v hv with z | z | ⟨_, z⟩
    · cases z
    · exact z
    · exact fun own ho => z own (hd own ho)
  refine ⟨c.nd, c.v0, fun r v hv => ⟨(c.val r v hv).1, (c.val r v hv).2.1, (c.val r v hv).2.2.1⟩, cl, fun r v hv hp => ?_⟩
  obtain ⟨own, o1, o2, o3, w, h1, h2⟩ := c.last r v hv hp
  refine ⟨own, o1, o2, o3, ?_⟩
  obtain ⟨w2, h3, h4⟩ := cl _ _ h1 own o2
  have hw := (c.val _ _ h1).2.1
  have hr := (c.val r v hv).2.1
  have : (w + own) % sz = r := by
    rw [Int.add_emod, hw, ← Int.add_emod, Int.sub_add_cancel, hr]
  rw [this, hv] at h3
  cases h3
  have : w = v - own := by omega
  rw [this] at h1; exact h1
theorem cb_while (hs : 0 < sz) (hm : ∀ s ∈ ss, 0 < s ∧ s ≤ mx) (hsz : sz < 1000000) (hv : Sq v ss) : ∀ (k m : Nat) (L T : D) (fr : List Int) (h1 : Int) (dn : List Int), m < k → (∀ s ∈ ss, s ∈ dn) → CI ss sz mx L T fr h1 dn → T.length ≤ L.length → phi sz.toNat (sz * mx) L + fr.length ≤ m → m < 10000000 → ∀ o5 o6 o7, nl o5 = true → nl o6 = true → nl o7 = true →
    ∃ L' T' p5 p6 p7, CF ss sz L' T' ∧ whileS cl (.cmp .gt (.lenv 4) (.const (.int 0))) b_classes_by_2 k [some (v, .sh), some (.int sz, .sh), some (dv L, .ow), some (dv T, .ow), some (.lst (frs fr), .ow), o5, o6, o7] =
        some (.nx, [some (v, .sh), some (.int sz, .sh), some (dv L', .ow), some (dv T', .ow), some (.lst [], .ow), p5, p6, p7]) := by
  intro k
  induction k with
  | zero => intro m L T fr h1 dn h; omega
  | succ k ih =>
    intro m L T fr h1 dn hk hd c hTL hp hm7 o5 o6 o7 g5 g6 g7
    have hb : boolR (ev cl (.cmp .gt (.lenv 4) (.const (.int 0))) [some (v, .sh), some (.int sz, .sh), some (dv L, .ow), some (dv T, .ow), some (.lst (frs fr), .ow), o5, o6, o7]) = some (decide (0 < fr.length), [some (v, .sh), some (.int sz, .sh), some (dv L, .ow), some (dv T, .ow), some (.lst (frs fr), .ow), o5, o6, o7]) := by
      simp [bLen, iR, cmpv, cmpI, frs]
    cases fr with
    | nil => exact ⟨L, T, o5, o6, o7, c.fin hd, (whileS_F hb).trans rfl⟩
    | cons h fr =>
      have hpop : ex cl (.asg 5 (.popv 4 (.cons (.const (.int 0)) .nil))) [some (v, .sh), some (.int sz, .sh), some (dv L, .ow), some (dv T, .ow), some (.lst (frs (h :: fr)), .ow), o5, o6, o7] = some (.nx, [some (v, .sh), some (.int sz, .sh), some (dv L, .ow), some (dv T, .ow), some (.lst (frs fr), .ow), some (.int h, .sh), o6, o7]) := by
        have : ixN (fr.length + 1) 0 = some 0 := by unfold ixN; rw [if_pos (by omega), if_pos (by omega)]; rfl
        simp [hasL, popV, this, frs, put_at, g5]
      obtain ⟨hh0, w, hw, hwle⟩ := c.frq h (List.mem_cons_self ..)
      have cp := c.pop hd
      have hmod : ev cl (.bin .mod (.var 5) (.var 1)) [some (v, .sh), some (.int sz, .sh), some (dv L, .ow), some (dv T, .ow), some (.lst (frs fr), .ow), some (.int h, .sh), o6, o7] = some ((.int (h % sz), false), [some (v, .sh), some (.int sz, .sh), some (dv L, .ow), some (dv T, .ow), some (.lst (frs fr), .ow), some (.int h, .sh), o6, o7]) := ev_modE hs rfl rfl
      have hcond : boolR (ev cl (.cmp .eq (.idxv 2 (.bin .mod (.var 5) (.var 1))) (.var 5)) [some (v, .sh), some (.int sz, .sh), some (dv L, .ow), some (dv T, .ow), some (.lst (frs fr), .ow), some (.int h, .sh), o6, o7]) = some (decide (w = h), [some (v, .sh), some (.int sz, .sh), some (dv L, .ow), some (dv T, .ow), some (.lst (frs fr), .ow), some (.int h, .sh), o6, o7]) :=
        boolR_of (ev_eqI (ev_idxD rfl hmod rfl hw) rfl)
      by_cases e : w = h
      · subst e
        rw [if_pos hw] at cp
        obtain ⟨L', T', fr', p6, p7, q6, q7, cc, hTL', hpp, hf⟩ := cb_inner cl v hs hm hsz w ss [] L T fr (fun _ z => z) cp hw hTL (by simp at hp; omega) o6 o7 g6 g7
        rw [List.nil_append] at cc
        obtain ⟨L2, T2, r5, r6, r7, cf, hwl⟩ := ih (m - 1) L' T' fr' w ss (by simp at hp; omega) (fun _ z => z) cc hTL' (by simp at hp; omega) (by omega) (some (.int w, .sh)) p6 p7 (by simp) q6 q7
        refine ⟨L2, T2, r5, r6, r7, cf, whileS_T (hb.trans (by simp)) (ex_seq' hpop (ex_for' ?_ hf)) hwl⟩
        have := ev_ite' (cl := cl) (a := .var 0) (b := .lst .nil) (r := some ((v, false), [some (v, .sh), some (.int sz, .sh), some (dv L, .ow), some (dv T, .ow), some (.lst (frs fr), .ow), some (.int w, .sh), o6, o7])) hcond (fun _ => rfl) (fun h => by simp at h)
        exact it_seq this hv
      · have hne : ¬ dget L (h % sz) = some h := fun z => e (by rw [hw] at z; cases z; rfl)
        rw [if_neg hne] at cp
        obtain ⟨L2, T2, r5, r6, r7, cf, hwl⟩ := ih (m - 1) L T fr h ss (by simp at hp; omega) (fun _ z => z) cp hTL (by simp at hp; omega) (by omega) (some (.int h, .sh)) o6 o7 (by simp) g6 g7
        refine ⟨L2, T2, r5, r6, r7, cf, whileS_T (hb.trans (by simp)) (ex_seq' hpop (ex_for' (l := []) ?_ forS_nil)) hwl⟩
        have := ev_ite' (cl := cl) (a := .var 0) (b := .lst .nil) (r := some ((.lst [], true), [some (v, .sh), some (.int sz, .sh), some (dv L, .ow), some (dv T, .ow), some (.lst (frs fr), .ow), some (.int h, .sh), o6, o7])) hcond (fun z => absurd (by simpa using z) e) (fun h => rfl)
        rw [this]; rfl
end
section
variable {F : Nat → Option Fn} {n : Nat} {v : Val} {ss : List Int} {sz mx : Int}
theorem q_classes_by (h25 : F 25 = some p_classes_by) (hs : 0 < sz) (hm : ∀ s ∈ ss, 0 < s ∧ s ≤ mx) (hsz : sz < 1000) (hmx : 0 < mx) (hB : sz * (sz * mx) < 9000000) (hv : Sq v ss) :
    ∃ L T, CF ss sz L T ∧ clN F (n + 1) 25 false [v, .int sz] = some ((.tup [dv L, dv T], false), .none) := by
  have c0 : CI ss sz mx [(0, 0)] [] [0] 0 ss := by
    refine ⟨by simp [dnd], rfl, fun r v h => ?_, fun h hh => ?_, fun r v h => ?_, fun r v h hp => ?_⟩
    · unfold dget at h
      split at h
      · rename_i e; cases h; subst e; exact ⟨by omega, by simp, .zero, by simp⟩
      · cases h
    · have : h = 0 := by simpa using hh
      subst this; exact ⟨by omega, 0, by simp [dget], by omega⟩
    · unfold dget at h
      split at h
      · cases h; exact .inl (by simp)
      · cases h
    · unfold dget at h
      split at h
      · cases h; omega
      · cases h
  have hphi : phi sz.toNat (sz * mx) [(0, 0)] + [(0 : Int)].length ≤ 9000001 := by
    have hb : 0 ≤ sz * mx := Int.mul_nonneg (by omega) (by omega)
    have : ∀ m : Nat, phi m (sz * mx) [(0, 0)] ≤ m * (sz * mx).toNat := by
      intro m
      induction m with
      | zero => simp [phi]
      | succ m ih =>
        unfold phi at ih ⊢
        rw [List.range_succ, List.map_append, List.sum_append, Nat.succ_mul]
        simp only [List.map_cons, List.map_nil, List.sum_cons, List.sum_nil, Nat.add_zero]
        have : ((dget [(0, 0)] (m : Int)).getD (sz * mx)).toNat ≤ (sz * mx).toNat := by
          unfold dget
          split
          · simp
          · exact Nat.le_refl _
        omega
    have h1 := this sz.toNat
    have h2 : ((sz.toNat * (sz * mx).toNat : Nat) : Int) = sz * (sz * mx) := by
      rw [Int.natCast_mul, Int.toNat_of_nonneg (by omega), Int.toNat_of_nonneg hb]
    simp; omega
  obtain ⟨L, T, p5, p6, p7, cf, hw⟩ := cb_while (clN F n) v hs hm (by omega) hv 1000000000 9000001 [(0, 0)] [] [0] 0 ss (by omega) (fun _ z => z) c0 (by simp) hphi (by omega) none none none (by simp) (by simp) (by simp)
  refine ⟨L, T, cf, cl_ret h25 rfl (ex_seq' (env1 := [some (v, .sh), some (.int sz, .sh), some (dv [(0, 0)], .ow), some (dv [], .ow), some (.lst (frs [0]), .ow), none, none, none]) rfl (ex_seq' (ex_while.trans hw) rfl))⟩
end
end QS

end
section
set_option Elab.async false
set_option linter.all false
set_option maxRecDepth 100000
/-! heaps.py -/
namespace QS
open PySem (Str)
open Q
/-! ### sizes -/
theorem mem_ins (x y : Int) : ∀ l : List Int, y ∈ ins x l ↔ y = x ∨ y ∈ l
  | [] => by simp [ins]
  | z :: l => by
    unfold ins
    split
    · simp
    · simp only [List.mem_cons, mem_ins x y l]
      constructor
      · rintro (h | h | h) <;> simp [h]
      · rintro (h | h | h) <;> simp [h]
theorem mem_isort (y : Int) : ∀ l : List Int, y ∈ isort l ↔ y ∈ l
  | [] => by simp [isort]
  | x :: l => by simp only [isort, mem_ins, mem_isort y l, List.mem_cons]
theorem mem_dedup (y : Int) : ∀ l : List Int, y ∈ dedup l ↔ y ∈ l
  | [] => by simp [dedup]
  | x :: l => by
    unfold dedup
    split
    · rename_i h
      rw [mem_dedup y l, List.mem_cons]
      exact ⟨.inr, fun z => z.elim (fun e => by rw [e]; exact h) id⟩
    · rw [List.mem_cons, List.mem_cons, mem_dedup y l]
def absL (cs : List Int) : List Int := cs.map fun c => (c.natAbs : Int)
def ssOf (cs : List Int) : List Int := isort (dedup (absL cs))
theorem mem_absL {cs : List Int} {s : Int} : s ∈ absL cs ↔ ∃ c ∈ cs, (c.natAbs : Int) = s := by simp [absL]
theorem mem_ssOf {cs : List Int} {s : Int} : s ∈ ssOf cs ↔ ∃ c ∈ cs, (c.natAbs : Int) = s := by
  unfold ssOf
  rw [mem_isort, mem_dedup, mem_absL]
theorem ssOf_ne {cs : List Int} (h : cs ≠ []) : ∃ s r, ssOf cs = s :: r := by
  cases e : ssOf cs with
  | cons s r => exact ⟨s, r, rfl⟩
  | nil =>
    obtain ⟨c, r, rfl⟩ := List.exists_cons_of_ne_nil h
    have : (c.natAbs : Int) ∈ ssOf (c :: r) := mem_ssOf.mpr ⟨c, by simp, rfl⟩
    rw [e] at this; cases this
/-- coefficients, as the heaps' defs take them -/
structure Hc (cs : List Int) : Prop where
  ne : cs ≠ []
  len : cs.length ≤ 60
  ok : ∀ c ∈ cs, c ≠ 0 ∧ c.natAbs ≤ 200
theorem Hc.okc {cs : List Int} (h : Hc cs) : ∀ c ∈ cs, QS.okc c := fun c hc => by
  have := (h.ok c hc).2
  unfold QS.okc; omega
theorem Hc.ss {cs : List Int} (h : Hc cs) : ∀ s ∈ ssOf cs, 0 < s ∧ s ≤ 200 := fun s hs => by
  obtain ⟨c, hc, rfl⟩ := mem_ssOf.mp hs
  have := h.ok c hc
  omega
/-! ### facts of what classes_by leaves -/
section
variable {ss : List Int} {sz : Int} {L T : D}
theorem CF.heap (c : CF ss sz L T) {h : Int} (H : HeapR ss h) : ∃ v, dget L (h % sz) = some v ∧ v ≤ h := by
  induction H with
  | zero => exact ⟨0, by simpa using c.v0, by omega⟩
  | @add h s H hs ih =>
    obtain ⟨v, h1, h2⟩ := ih
    obtain ⟨w, h3, h4⟩ := c.clo _ _ h1 s hs
    have hv := (c.val _ _ h1).2.1
    have e : (v + s) % sz = (h + s) % sz := by rw [Int.add_emod, hv, ← Int.add_emod]
    rw [e] at h3
    exact ⟨w, h3, by omega⟩
theorem HeapR.mul {s h : Int} (hs : s ∈ ss) (H : HeapR ss h) : ∀ k : Nat, HeapR ss (h + s * k)
  | 0 => by simpa using H
  | k + 1 => by
    have := (HeapR.mul hs H k).add hs
    have e : h + s * (k : Int) + s = h + s * ((k + 1 : Nat) : Int) := by rw [Int.natCast_add, Int.mul_add]; simp; omega
    rw [e] at this; exact this
/-- a number is a heap exactly if it is no less than the least of its class -/
theorem CF.iff (c : CF ss sz L T) (hs : 0 < sz) (hm : sz ∈ ss) {x : Int} : HeapR ss x ↔ ∃ v, dget L (x % sz) = some v ∧ v ≤ x := by
  refine ⟨c.heap, fun ⟨v, h1, h2⟩ => ?_⟩
  obtain ⟨_, v2, v3⟩ := c.val _ _ h1
  have hd : sz ∣ x - v := Int.dvd_of_emod_eq_zero (Int.emod_eq_emod_iff_emod_sub_eq_zero.mp v2.symm)
  obtain ⟨k, hk⟩ := hd
  have hk0 : 0 ≤ k := by
    apply Int.not_lt.mp
    intro h
    have := Int.mul_lt_mul_of_pos_left h hs
    omega
  have := HeapR.mul hm v3 k.toNat
  rw [Int.toNat_of_nonneg hk0, ← hk] at this
  have e : v + (x - v) = x := by omega
  rw [e] at this; exact this
theorem CF.least (c : CF ss sz L T) {r v : Int} (h : dget L r = some v) : HeapR ss v ∧ 0 ≤ v ∧ v % sz = r ∧ ∀ x, HeapR ss x → x % sz = r → v ≤ x := by
  obtain ⟨a, b, d⟩ := c.val r v h
  refine ⟨d, a, b, fun x hx hr => ?_⟩
  obtain ⟨w, h1, h2⟩ := c.heap hx
  rw [hr, h] at h1
  cases h1; exact h2
end
section
variable {F : Nat → Option Fn} {n : Nat} {c : Val} {cs : List Int}
theorem q_sizes_of (h24 : F 24 = some p_sizes_of) (hc : Sq c cs) (hl : cs.length ≤ 60) : clN F (n + 1) 24 false [c] = some ((.lst (intz (ssOf cs)), true), .none) := by
  have e : ev (clN F n) (.comp (.bcall .abs (.cons (.var 1) .nil)) (.name 1) (.var 0) (.const (.bool true))) [some (c, .sh), none] = some ((.lst (cs.map fun c => .int (c.natAbs : Int)), true), [some (c, .sh), none]) :=
    ev_compT Val.int _ (it_seq rfl hc) rfl (fun x hx => ⟨_, rfl, _, _, ev_abs rfl, rfl⟩) (fun env1 a h => by cases h; rfl)
  have e2 : (cs.map fun c => Val.int (c.natAbs : Int)) = (absL cs).map .int := by simp [absL]
  rw [e2] at e
  refine cl_ret (env' := [some (c, .sh), none]) h24 rfl (ex_ret' rfl ?_)
  have hl2 : (absL cs).length ≤ 60 := by simpa [absL] using hl
  show ev (clN F n) (.bcall .sortedset (.cons (.comp (.bcall .abs (.cons (.var 1) .nil)) (.name 1) (.var 0) (.const (.bool true))) .nil)) [some (c, .sh), none] = _
  simp only [ev_bcall, evs_cons, evs_nil, e, bcallV, vals_cons, vals_nil, bSortset, asInts_map, hl2, if_true, mk_some]
  rfl
/-- sizes_of(..)[0] -/
theorem q_size0 (h24 : F 24 = some p_sizes_of) {s0 : Int} {r : List Int} (hs : ssOf cs = s0 :: r) {a : E} {env env1 : Env} {k : Bool} (ha : ev (clN F (n + 1)) a env = some ((c, k), env1)) (hc : Sq c cs) (hl : cs.length ≤ 60) :
    ev (clN F (n + 1)) (.idx (.call 24 (.cons a .nil)) (.const (.int 0))) env = some ((.int s0, false), env1) := by
  rw [ev_idx, ev_call1 ha (q_sizes_of h24 hc hl)]
  simp only [ev_const, idxV, hs]
  have : atI (intz (s0 :: r)) 0 = some (.int s0) := atI_nat (k := 0) rfl
  rw [this]; rfl
theorem q_least_heaps (h24 : F 24 = some p_sizes_of) (h25 : F 25 = some p_classes_by) (h26 : F 26 = some p_least_heaps) (hc : Sq c cs) (H : Hc cs) {s0 : Int} {r : List Int} (hs : ssOf cs = s0 :: r) :
    ∃ L T, CF (ssOf cs) s0 L T ∧ clN F (n + 2) 26 false [c] = some ((dv L, false), .none) := by
  have hm0 := H.ss s0 (by rw [hs]; simp)
  have hB : s0 * (s0 * 200) < 9000000 := by
    have h1 : s0 * 200 ≤ 40000 := by omega
    have h2 : 0 ≤ s0 * 200 := by omega
    have := Int.mul_le_mul hm0.2 h1 h2 (by omega)
    omega
  obtain ⟨L, T, cf, hq⟩ := q_classes_by (F := F) (n := n) (v := .lst (intz (ssOf cs))) (mx := 200) h25 hm0.1 H.ss (by omega) (by omega) hB (.inr rfl)
  refine ⟨L, T, cf, ?_⟩
  have e1 : ex (clN F (n + 1)) (.asg 1 (.call 24 (.cons (.var 0) .nil))) [some (c, .sh), none] = some (.nx, [some (c, .sh), some (.lst (intz (ssOf cs)), .ow)]) := (ex_asgO (env1 := [some (c, .sh), none]) (ev_call1 rfl (q_sizes_of h24 hc H.len)) rfl).trans rfl
  have e2 : boolR (ev (clN F (n + 1)) (.cmp .gt (.lenv 1) (.const (.int 0))) [some (c, .sh), some (.lst (intz (ssOf cs)), .ow)]) = some (true, [some (c, .sh), some (.lst (intz (ssOf cs)), .ow)]) := by
    simp [bLen, iR, cmpv, cmpI, intz, hs]
  have e3 : ev (clN F (n + 1)) (.idx (.call 25 (.cons (.var 1) (.cons (.idxv 1 (.const (.int 0))) .nil))) (.const (.int 0))) [some (c, .sh), some (.lst (intz (ssOf cs)), .ow)] = some ((dv L, false), [some (c, .sh), some (.lst (intz (ssOf cs)), .sh)]) := by
    have h0 : ev (clN F (n + 1)) (.idxv 1 (.const (.int 0))) [some (c, .sh), some (.lst (intz (ssOf cs)), .sh)] = some ((.int s0, false), [some (c, .sh), some (.lst (intz (ssOf cs)), .sh)]) := by
      refine ev_idxL rfl rfl rfl ?_
      rw [hs]; exact atI_nat (k := 0) rfl
    rw [ev_idx, ev_call2 (env1 := [some (c, .sh), some (.lst (intz (ssOf cs)), .sh)]) (u := .lst (intz (ssOf cs))) (k := false) rfl h0 hq]
    simp only [ev_const, idxV]
    rw [show atI [dv L, dv T] 0 = some (dv L) from atI_nat (k := 0) rfl]; rfl
  exact cl_ret h26 rfl (ex_seq' e1 (ex_ret' rfl (ev_ite' e2 (fun _ => e3) fun h => by cases h)))
theorem q_is_above (h27 : F 27 = some p_is_above) {L : D} {sz x : Int} (hs : 0 < sz) : ∃ b : Bool, clN F (n + 1) 27 false [dv L, .int sz, .int x] = some ((.bool b, false), .none) ∧ (b = true ↔ ∃ v, dget L (x % sz) = some v ∧ v ≤ x) := by
  have hmod : ev (clN F n) (.bin .mod (.var 2) (.var 1)) [some (dv L, .sh), some (.int sz, .sh), some (.int x, .sh)] = some ((.int (x % sz), false), [some (dv L, .sh), some (.int sz, .sh), some (.int x, .sh)]) := ev_modE hs rfl rfl
  have e1 : boolR (ev (clN F n) (.inv false (.bin .mod (.var 2) (.var 1)) 0) [some (dv L, .sh), some (.int sz, .sh), some (.int x, .sh)]) = some ((dget L (x % sz)).isSome, [some (dv L, .sh), some (.int sz, .sh), some (.int x, .sh)]) := by
    rw [ev_inv, hmod]
    simp only [eget, dv, inV, asKey, look_d, Option.isSome_map]
    rfl
  cases hd : dget L (x % sz) with
  | none =>
    refine ⟨false, cl_ret h27 rfl (ex_ret' rfl ((ev_and' (q := false) e1 fun h => by rw [hd] at h; cases h).trans (by rw [hd]; rfl))), ?_⟩
    simp
  | some v =>
    refine ⟨decide (v ≤ x), cl_ret h27 rfl (ex_ret' rfl ((ev_and' (q := decide (v ≤ x)) e1 fun h => ?_).trans (by rw [hd]; rfl))), ?_⟩
    · exact boolR_as (ev_cmpI rfl (ev_idxD rfl hmod rfl hd) rfl) rfl
    · simp
theorem q_is_heap (h24 : F 24 = some p_sizes_of) (h25 : F 25 = some p_classes_by) (h26 : F 26 = some p_least_heaps) (h27 : F 27 = some p_is_above) (h96 : F 96 = some p_is_heap) (hc : Sq c cs) (H : Hc cs) {x : Int} :
    ∃ b : Bool, clN F (n + 3) 96 false [c, .int x] = some ((.bool b, false), .none) ∧ (b = true ↔ HeapR (ssOf cs) x) := by
  obtain ⟨s0, r, hs⟩ := ssOf_ne H.ne
  have hm0 := H.ss s0 (by rw [hs]; simp)
  have e1 : boolR (ev (clN F (n + 2)) (.or (.cmp .le (.var 1) (.const (.int 0))) (.cmp .eq (.lenv 0) (.const (.int 0)))) [some (c, .sh), some (.int x, .sh)]) = some (decide (x ≤ 0), [some (c, .sh), some (.int x, .sh)]) := by
    refine (boolR_of (ev_or' (p := decide (x ≤ 0)) (q := false) (boolR_as rfl rfl) fun _ => ?_)).trans (by simp)
    have hlen : ev (clN F (n + 2)) (.lenv 0) [some (c, .sh), some (.int x, .sh)] = some ((.int (cs.length : Int), false), [some (c, .sh), some (.int x, .sh)]) := by
      rcases hc with rfl | rfl <;> simp [bLen, iR, intz]
    refine (boolR_of (ev_eqI hlen rfl)).trans ?_
    have : ¬ (cs.length : Int) = 0 := by
      have := H.ne
      intro e
      exact this (List.length_eq_zero_iff.mp (by omega))
    rw [decide_eq_false this]
  by_cases hx : x ≤ 0
  · refine ⟨decide (x = 0), cl_ret h96 rfl (ex_seqR (ex_if e1 (fun _ => ex_ret' rfl (ev_eqI rfl rfl)) fun h => absurd hx (by simpa using h))), ?_⟩
    rw [decide_eq_true_eq]
    refine ⟨fun h => by rw [h]; exact .zero, fun h => ?_⟩
    have := h.nonneg fun s hs => (H.ss s hs).1
    omega
  · obtain ⟨L, T, cf, hq⟩ := q_least_heaps (n := n) h24 h25 h26 hc H hs
    obtain ⟨b, hb, hbi⟩ := q_is_above (F := F) (n := n + 1) (L := L) (x := x) h27 hm0.1
    refine ⟨b, cl_ret h96 rfl (ex_seq' (ex_if e1 (fun h => absurd (by simpa using h) hx) fun _ => ex_skip) (ex_ret' rfl (ev_call3 (ev_call1 rfl hq) (q_size0 h24 hs rfl hc H.len) rfl hb))), ?_⟩
    rw [hbi]
    exact (cf.iff hm0.1 (by rw [hs]; simp)).symm
theorem q_check_counter (h20 : F 20 = some p_check_counter) (hc : Sq c cs) {p : Nat} (hp : p < cs.length) : clN F (n + 1) 20 false [c, .int p] = some ((.none, false), .none) := by
  have hlen : ev (clN F n) (.lenv 0) [some (c, .sh), some (.int p, .sh)] = some ((.int (cs.length : Int), false), [some (c, .sh), some (.int p, .sh)]) := by
    rcases hc with rfl | rfl <;> simp [bLen, iR, intz]
  have e1 : boolR (ev (clN F n) (.not (.chain .le .lt (.const (.int 0)) (.var 1) (.lenv 0))) [some (c, .sh), some (.int p, .sh)]) = some (false, [some (c, .sh), some (.int p, .sh)]) := by
    rcases hc with rfl | rfl <;> simp [cmpv, cmpI, bLen, iR, intz, hp]
  exact cl_nx h20 rfl (ex_if e1 (fun h => by cases h) fun _ => ex_skip)
theorem q_least_in_class (h20 : F 20 = some p_check_counter) (h24 : F 24 = some p_sizes_of) (h25 : F 25 = some p_classes_by) (h99 : F 99 = some p_least_in_class) (hc : Sq c cs) (H : Hc cs) {p : Nat} {k x : Int} (hp : cs[p]? = some k) :
    ∃ L T, CF (ssOf cs) k.natAbs L T ∧ clN F (n + 2) 99 false [c, .int p, .int x] = some ((((dget L (x % (k.natAbs : Int))).map Val.int).getD .none, false), .none) := by
  have hk := List.mem_of_getElem? hp
  have hpl := (List.getElem?_eq_some_iff.mp hp).1
  have hkk := H.ok k hk
  have hB : (k.natAbs : Int) * (k.natAbs * 200) < 9000000 := by
    have h1 : (k.natAbs : Int) * 200 ≤ 40000 := by omega
    have h2 : 0 ≤ (k.natAbs : Int) * 200 := by omega
    have := Int.mul_le_mul (show (k.natAbs : Int) ≤ 200 by omega) h1 h2 (by omega)
    omega
  obtain ⟨L, T, cf, hq⟩ := q_classes_by (F := F) (n := n) (v := .lst (intz (ssOf cs))) (mx := 200) (sz := k.natAbs) h25 (by omega) H.ss (by omega) (by omega) hB (.inr rfl)
  refine ⟨L, T, cf, ?_⟩
  have e1 : ex (clN F (n + 1)) (.expr (.call 20 (.cons (.var 0) (.cons (.var 1) .nil)))) [some (c, .sh), some (.int p, .sh), some (.int x, .sh), none] = some (.nx, [some (c, .sh), some (.int p, .sh), some (.int x, .sh), none]) := by
    rw [ex_expr, ev_call2 rfl rfl (q_check_counter h20 hc hpl)]
  have e2 : ex (clN F (n + 1)) (.asg 3 (.bcall .abs (.cons (.idxv 0 (.var 1)) .nil))) [some (c, .sh), some (.int p, .sh), some (.int x, .sh), none] = some (.nx, [some (c, .sh), some (.int p, .sh), some (.int x, .sh), some (.int k.natAbs, .sh)]) := by
    have h0 : ev (clN F (n + 1)) (.idxv 0 (.var 1)) [some (c, .sh), some (.int p, .sh), some (.int x, .sh), none] = some ((.int k, false), [some (c, .sh), some (.int p, .sh), some (.int x, .sh), none]) := by
      have ha : atI (intz cs) p = some (.int k) := atI_nat (by unfold intz; rw [List.getElem?_map, hp]; rfl)
      rcases hc with rfl | rfl <;> simp [has, idxV, ha]
    exact (ex_asgS (env1 := [some (c, .sh), some (.int p, .sh), some (.int x, .sh), none]) (ev_abs h0) rfl).trans rfl
  refine cl_ret (env' := [some (c, .sh), some (.int p, .sh), some (.int x, .sh), some (.int k.natAbs, .sh)]) h99 rfl (ex_seq' e1 (ex_seq' e2 (ex_ret' rfl ?_)))
  have e3 : ev (clN F (n + 1)) (.idx (.call 25 (.cons (.call 24 (.cons (.var 0) .nil)) (.cons (.var 3) .nil))) (.const (.int 0))) [some (c, .sh), some (.int p, .sh), some (.int x, .sh), some (.int k.natAbs, .sh)] = some ((dv L, false), [some (c, .sh), some (.int p, .sh), some (.int x, .sh), some (.int k.natAbs, .sh)]) := by
    rw [ev_idx, ev_call2 (ev_call1 rfl (q_sizes_of h24 hc H.len)) rfl hq]
    simp only [ev_const, idxV]
    rw [show atI [dv L, dv T] 0 = some (dv L) from atI_nat (k := 0) rfl]; rfl
  have hmod : ev (clN F (n + 1)) (.bin .mod (.var 2) (.var 3)) [some (c, .sh), some (.int p, .sh), some (.int x, .sh), some (.int k.natAbs, .sh)] = some ((.int (x % (k.natAbs : Int)), false), [some (c, .sh), some (.int p, .sh), some (.int x, .sh), some (.int k.natAbs, .sh)]) := ev_modE (by omega) rfl rfl
  rw [ev_mcall, e3]
  simp only [evs_cons, hmod, evs_nil, vals_cons, vals_nil, mcallV, dv, mGet, asKey, look_d, mk_some]
end
end QS

end
section
set_option Elab.async false
set_option linter.all false
set_option maxRecDepth 100000
/-! heap_counts -/
namespace QS
open PySem (Str)
open Q
def dotA : List Int → List Int → Int
  | a :: l, f :: g => a * f + dotA l g
  | _, _ => 0
theorem dotA_set : ∀ (l f : List Int) (j : Nat) (a v w : Int), l[j]? = some a → f[j]? = some v → dotA l (f.set j w) = dotA l f + a * (w - v)
  | [], _, _, _, _, _, h, _ => by simp at h
  | _ :: _, [], _, _, _, _, _, h => by simp at h
  | b :: l, g :: f, 0, a, v, w, h1, h2 => by
    simp at h1 h2
    subst h1; subst h2
    simp only [List.set_cons_zero, dotA, Int.mul_sub]
    omega
  | b :: l, g :: f, j + 1, a, v, w, h1, h2 => by
    have := dotA_set l f j a v w (by simpa using h1) (by simpa using h2)
    simp only [List.set_cons_succ, dotA, this]
    omega
theorem dotA_zero : ∀ (l : List Int) (m : Nat), dotA l (List.replicate m 0) = 0
  | [], _ => by cases ‹Nat› <;> rfl
  | _ :: _, 0 => rfl
  | b :: l, m + 1 => by rw [List.replicate_succ]; simp only [dotA, dotA_zero l m]; omega
theorem minL_mem {l : List Int} (h : l ≠ []) : ∃ m, minL l = some m ∧ m ∈ l := by
  cases l with
  | nil => exact absurd rfl h
  | cons x r =>
    have : ∀ (r : List Int) (x : Int), r.foldl (fun a b => if b < a then b else a) x = x ∨ r.foldl (fun a b => if b < a then b else a) x ∈ r := by
      intro r
      induction r with
      | nil => intro x; exact .inl rfl
      | cons y r ih =>
        intro x
        rw [List.foldl_cons]
        rcases ih (if y < x then y else x) with h | h
        · rw [h]; split
          · exact .inr (by simp)
          · exact .inl rfl
        · exact .inr (List.mem_cons_of_mem _ h)
    refine ⟨_, rfl, ?_⟩
    rcases this r x with h | h
    · rw [h]; simp
    · exact List.mem_cons_of_mem _ h
theorem idx_ints {l : List Int} {x : Int} (h : x ∈ l) : ∃ j : Nat, mIndex (.lst (intz l)) [.int x] = some ((.int j, false)) ∧ l[j]? = some x := by
  have hall : (intz l).all flat = true := by simp [intz, flat]
  cases e : (intz l).findIdx? fun y => veq y (.int x) with
  | none =>
    rw [List.findIdx?_eq_none_iff] at e
    have := e (.int x) (by unfold intz; exact List.mem_map_of_mem (f := Val.int) h)
    simp [veq] at this
  | some j =>
    refine ⟨j, ?_, ?_⟩
    · simp only [mIndex, hall, flat, Bool.and_self, if_true, e, iR]
    · obtain ⟨hj, h1, _⟩ := List.findIdx?_eq_some_iff_getElem.mp e
      have hj' : j < l.length := by simpa [intz] using hj
      rw [List.getElem?_eq_getElem hj']
      simp [intz, veq] at h1
      rw [h1]
theorem ev_index {cl : Cl} {env env1 env2 : Env} {a b : E} {l : List Int} {x : Int} {k k' : Bool} {j : Nat} (ha : ev cl a env = some ((.lst (intz l), k), env1)) (hb : ev cl b env1 = some ((.int x, k'), env2)) (h : mIndex (.lst (intz l)) [.int x] = some ((.int j, false))) :
    ev cl (.mcall .index a (.cons b .nil)) env = some ((.int j, false), env2) := by
  simp only [ev_mcall, ha, evs_cons, hb, evs_nil, vals_cons, vals_nil, mcallV, h, mk_some]
theorem setV_l {l : List Val} {j : Nat} {v : Val} (h : j < l.length) : setV (.lst l) (.int j) v = some (.lst (l.set j v)) := by
  have : ixN l.length (j : Int) = some j := by unfold ixN; rw [if_pos (by omega), if_pos (by omega)]; simp
  simp only [setV, this]
theorem ints_set (l : List Int) (j : Nat) (x : Int) : (intz l).set j (.int x) = intz (l.set j x) := by
  unfold intz; rw [List.map_set]
theorem ints_get {l : List Int} {j : Nat} {x : Int} (h : l[j]? = some x) : atI (intz l) j = some (.int x) := atI_nat (by unfold intz; rw [List.getElem?_map, h]; rfl)
section
variable {cl : Cl} {c : Val} {ss : List Int} {sz x : Int} {L T : D}
theorem hc_while (hs : 0 < sz) (pos : ∀ s ∈ ss, 0 < s) (cf : CF ss sz L T) (A : List Int) (hA : ∀ s ∈ ss, s ∈ A) (u1 u6 : Slot) : ∀ (k : Nat) (h : Int) (f : List Int) (o2 : Slot), h.toNat < k → dget L (h % sz) = some h → f.length = A.length → (∀ y ∈ f, 0 ≤ y) → nl o2 = true →
    ∃ f' o2', f'.length = A.length ∧ (∀ y ∈ f', 0 ≤ y) ∧ dotA A f' = dotA A f + h ∧
      whileS cl (.cmp .gt (.var 8) (.const (.int 0))) b_heap_counts_1 k [some (c, .sh), u1, o2, some (.lst (intz A), .sh), some (.lst (intz f), .ow), some (.int sz, .sh), u6, some (dv T, .sh), some (.int h, .sh)] =
        some (.nx, [some (c, .sh), u1, o2', some (.lst (intz A), .sh), some (.lst (intz f'), .ow), some (.int sz, .sh), u6, some (dv T, .sh), some (.int 0, .sh)]) := by
  intro k
  induction k with
  | zero => intro h f o2 hk; omega
  | succ k ih =>
    intro h f o2 hk hd hf hy h2
    have hh0 := (cf.val _ _ hd).1
    by_cases h0 : h = 0
    · subst h0
      exact ⟨f, o2, hf, hy, by omega, whileS_F (boolR_as rfl (by simp))⟩
    · obtain ⟨own, o1, o2m, o3, o4⟩ := cf.last _ _ hd (by omega)
      have hpos := pos own o2m
      obtain ⟨j, hj, hjA⟩ := idx_ints (hA own o2m)
      have hjl : j < f.length := by rw [hf]; exact (List.getElem?_eq_some_iff.mp hjA).1
      have hfj : f[j]? = some (f[j]) := List.getElem?_eq_getElem hjl
      obtain ⟨f', o2', g1, g2, g3, hw⟩ := ih (h - own) (f.set j (f[j] + 1)) (some (.int own, .sh)) (by omega) o4 (by simpa using hf) (fun y hyy => by
        rcases List.mem_or_eq_of_mem_set hyy with z | z
        · exact hy y z
        · have := hy _ (List.getElem_mem hjl); omega) (by simp)
      refine ⟨f', o2', g1, g2, ?_, whileS_T (boolR_as rfl (by simp; omega)) ?_ hw⟩
      · rw [g3, dotA_set A f j own _ _ hjA hfj]
        have : own * (f[j] + 1 - f[j]) = own := by rw [show f[j] + 1 - f[j] = 1 by omega]; omega
        omega
      · have e1 : ex cl (.asg 2 (.idxv 7 (.bin .mod (.var 8) (.var 5)))) [some (c, .sh), u1, o2, some (.lst (intz A), .sh), some (.lst (intz f), .ow), some (.int sz, .sh), u6, some (dv T, .sh), some (.int h, .sh)] = some (.nx, [some (c, .sh), u1, some (.int own, .sh), some (.lst (intz A), .sh), some (.lst (intz f), .ow), some (.int sz, .sh), u6, some (dv T, .sh), some (.int h, .sh)]) :=
          (ex_asgS (env1 := [some (c, .sh), u1, o2, some (.lst (intz A), .sh), some (.lst (intz f), .ow), some (.int sz, .sh), u6, some (dv T, .sh), some (.int h, .sh)]) (ev_idxD rfl (ev_modE hs rfl rfl) rfl o1) (by simpa using h2)).trans rfl
        have e2 : ex cl (.augi 4 (.mcall .index (.var 3) (.cons (.var 2) .nil)) .add (.const (.int 1))) [some (c, .sh), u1, some (.int own, .sh), some (.lst (intz A), .sh), some (.lst (intz f), .ow), some (.int sz, .sh), u6, some (dv T, .sh), some (.int h, .sh)] = some (.nx, [some (c, .sh), u1, some (.int own, .sh), some (.lst (intz A), .sh), some (.lst (intz (f.set j (f[j] + 1))), .ow), some (.int sz, .sh), u6, some (dv T, .sh), some (.int h, .sh)]) := by
          have hi : ev cl (.mcall .index (.var 3) (.cons (.var 2) .nil)) [some (c, .sh), u1, some (.int own, .sh), some (.lst (intz A), .sh), some (.lst (intz f), .ow), some (.int sz, .sh), u6, some (dv T, .sh), some (.int h, .sh)] = some ((.int j, false), [some (c, .sh), u1, some (.int own, .sh), some (.lst (intz A), .sh), some (.lst (intz f), .ow), some (.int sz, .sh), u6, some (dv T, .sh), some (.int h, .sh)]) := ev_index rfl rfl hj
          have hjf : j < (intz f).length := by simpa [intz] using hjl
          simp only [ex_augi, has, eget, Option.isSome_some, if_true, hi, idxV, ints_get hfj, ev_const, binI, chg, setV_l hjf, ints_set, nxt_some, eset]
        exact ex_seq' e1 (ex_seq' e2 (by simp [binI]))
end
section
variable {F : Nat → Option Fn} {n : Nat} {c : Val} {cs : List Int}
theorem q_heap_counts (h24 : F 24 = some p_sizes_of) (h25 : F 25 = some p_classes_by) (h26 : F 26 = some p_least_heaps) (h27 : F 27 = some p_is_above) (h96 : F 96 = some p_is_heap) (h110 : F 110 = some p_heap_counts) (hc : Sq c cs) (H : Hc cs) {x : Int} (hx : x < 900000000) :
    (¬ HeapR (ssOf cs) x ∧ clN F (n + 4) 110 false [c, .int x] = some ((.none, false), .none)) ∨
    (HeapR (ssOf cs) x ∧ ∃ f : List Int, f.length = cs.length ∧ (∀ y ∈ f, 0 ≤ y) ∧ dotA (absL cs) f = x ∧ clN F (n + 4) 110 false [c, .int x] = some ((.tup (intz f), false), .none)) := by
  obtain ⟨b, hb, hbi⟩ := q_is_heap (F := F) (n := n) (x := x) h24 h25 h26 h27 h96 hc H
  have e1 : boolR (ev (clN F (n + 3)) (.not (.call 96 (.cons (.var 0) (.cons (.var 1) .nil)))) [some (c, .sh), some (.int x, .sh), none, none, none, none, none, none, none]) = some (!b, [some (c, .sh), some (.int x, .sh), none, none, none, none, none, none, none]) := by
    rw [ev_not, ev_call2 rfl rfl hb]; rfl
  cases b with
  | false =>
    refine .inl ⟨fun z => by simpa using hbi.mpr z, cl_ret h110 rfl (ex_seqR (ex_if e1 (fun _ => ex_ret' rfl rfl) fun h => by cases h))⟩
  | true =>
    have hH : HeapR (ssOf cs) x := hbi.mp rfl
    have hx0 : 0 ≤ x := hH.nonneg fun s hs => (H.ss s hs).1
    refine .inr ⟨hH, ?_⟩
    have e2' : ev (clN F (n + 3)) (.comp (.bcall .abs (.cons (.var 2) .nil)) (.name 2) (.var 0) (.const (.bool true))) [some (c, .sh), some (.int x, .sh), none, none, none, none, none, none, none] = some ((.lst (cs.map fun c => .int (c.natAbs : Int)), true), [some (c, .sh), some (.int x, .sh), none, none, none, none, none, none, none]) :=
      ev_compT Val.int _ (it_seq rfl hc) rfl (fun x hx => ⟨_, rfl, _, _, ev_abs rfl, rfl⟩) (fun env1 a h => by cases h; rfl)
    have e2'' : (cs.map fun c => Val.int (c.natAbs : Int)) = intz (absL cs) := by simp [absL, intz]
    rw [e2''] at e2'
    have e2 : ex (clN F (n + 3)) (.asg 3 (.comp (.bcall .abs (.cons (.var 2) .nil)) (.name 2) (.var 0) (.const (.bool true)))) [some (c, .sh), some (.int x, .sh), none, none, none, none, none, none, none] = some (.nx, [some (c, .sh), some (.int x, .sh), none, some (.lst (intz (absL cs)), .ow), none, none, none, none, none]) := (ex_asgO e2' rfl).trans rfl
    have hl : (absL cs).length = cs.length := by simp [absL]
    have hlen := H.len
    have hrep : (List.replicate ((cs.length : Int)).toNat [Val.int 0]).flatten = intz (List.replicate cs.length 0) := by
      rw [Int.toNat_natCast]
      generalize cs.length = m
      induction m with
      | zero => rfl
      | succ m ih => rw [List.replicate_succ, List.flatten_cons, ih, List.replicate_succ]; rfl
    have e3 : ex (clN F (n + 3)) (.asg 4 (.bin .mul (.lst (.cons (.const (.int 0)) .nil)) (.lenv 3))) [some (c, .sh), some (.int x, .sh), none, some (.lst (intz (absL cs)), .ow), none, none, none, none, none] = some (.nx, [some (c, .sh), some (.int x, .sh), none, some (.lst (intz (absL cs)), .ow), some (.lst (intz (List.replicate cs.length 0)), .ow), none, none, none, none]) := by
      have hln : ev (clN F (n + 3)) (.lenv 3) [some (c, .sh), some (.int x, .sh), none, some (.lst (intz (absL cs)), .ow), none, none, none, none, none] = some ((.int (cs.length : Int), false), [some (c, .sh), some (.int x, .sh), none, some (.lst (intz (absL cs)), .ow), none, none, none, none, none]) := by
        simp [bLen, iR, intz, hl]
      have := ev_mulL (cl := clN F (n + 3)) (a := .lst (.cons (.const (.int 0)) .nil)) (l := [.int 0]) (k := true) (env := [some (c, .sh), some (.int x, .sh), none, some (.lst (intz (absL cs)), .ow), none, none, none, none, none]) rfl hln (by omega) (by simp; omega)
      rw [hrep] at this
      exact (ex_asgO this rfl).trans rfl
    by_cases hx1 : 0 < x
    · obtain ⟨m, hm1, hm2⟩ := minL_mem (l := absL cs) (by intro e; have := H.ne; apply this; exact List.length_eq_zero_iff.mp (by rw [← hl, e]; rfl))
      obtain ⟨c0, hc0, rfl⟩ := mem_absL.mp hm2
      have hm3 : ((c0.natAbs : Int)) ∈ ssOf cs := mem_ssOf.mpr ⟨c0, hc0, rfl⟩
      have hm0 := H.ss _ hm3
      have hB : (c0.natAbs : Int) * (c0.natAbs * 200) < 9000000 := by
        have h1 : (c0.natAbs : Int) * 200 ≤ 40000 := by omega
        have h2 : 0 ≤ (c0.natAbs : Int) * 200 := by omega
        have := Int.mul_le_mul hm0.2 h1 h2 (by omega)
        omega
      obtain ⟨L, T, cf, hq⟩ := q_classes_by (F := F) (n := n + 2) (v := .lst (intz (ssOf cs))) (mx := 200) h25 hm0.1 H.ss (by omega) (by omega) hB (.inr rfl)
      obtain ⟨w, hw1, hw2⟩ := (cf.iff hm0.1 hm3).mp hH
      have hw0 := cf.val _ _ hw1
      obtain ⟨j, hj, hjA⟩ := idx_ints hm2
      have hjl : j < (absL cs).length := (List.getElem?_eq_some_iff.mp hjA).1
      have hdvd : (c0.natAbs : Int) ∣ x - w := Int.dvd_of_emod_eq_zero (Int.emod_eq_emod_iff_emod_sub_eq_zero.mp hw0.2.1.symm)
      have hfd : (x - w).fdiv (c0.natAbs : Int) = (x - w) / (c0.natAbs : Int) := Int.fdiv_eq_ediv_of_nonneg _ (by omega)
      have hf0 : (List.replicate cs.length (0 : Int))[j]? = some 0 := by rw [List.getElem?_replicate, if_pos (by omega)]
      obtain ⟨f', o2', g1, g2, g3, hwl⟩ := hc_while (cl := clN F (n + 3)) (c := c) hm0.1 (fun s hs => (H.ss s hs).1) cf (absL cs) (fun s hs => mem_absL.mpr (mem_ssOf.mp hs)) (some (.int x, .sh)) (some (dv L, .sh)) 1000000000 w ((List.replicate cs.length (0 : Int)).set j ((x - w) / (c0.natAbs : Int))) none (by omega) (by rw [hw0.2.1]; exact hw1) (by simp [hl]) (fun y hy => by
        rcases List.mem_or_eq_of_mem_set hy with z | z
        · have := (List.mem_replicate.mp z).2; omega
        · rw [z]; exact Int.ediv_nonneg (by omega) (by omega)) (by simp)
      refine ⟨f', by rw [g1, hl], g2, ?_, ?_⟩
      · rw [g3, dotA_set _ _ j _ _ _ hjA hf0, dotA_zero, Int.sub_zero, Int.mul_ediv_cancel' hdvd]; omega
      · have e4 : boolR (ev (clN F (n + 3)) (.cmp .gt (.var 1) (.const (.int 0))) [some (c, .sh), some (.int x, .sh), none, some (.lst (intz (absL cs)), .ow), some (.lst (intz (List.replicate cs.length 0)), .ow), none, none, none, none]) = some (true, [some (c, .sh), some (.int x, .sh), none, some (.lst (intz (absL cs)), .ow), some (.lst (intz (List.replicate cs.length 0)), .ow), none, none, none, none]) := boolR_as rfl (by simpa using hx1)
        have e5 : ex (clN F (n + 3)) (.asg 5 (.bcall .min (.cons (.var 3) .nil))) [some (c, .sh), some (.int x, .sh), none, some (.lst (intz (absL cs)), .ow), some (.lst (intz (List.replicate cs.length 0)), .ow), none, none, none, none] = some (.nx, [some (c, .sh), some (.int x, .sh), none, some (.lst (intz (absL cs)), .sh), some (.lst (intz (List.replicate cs.length 0)), .ow), some (.int c0.natAbs, .sh), none, none, none]) := by
          simp [readV, bcallV, oI, intsOf, hm1, iR, put_at]
        have e6 : ex (clN F (n + 3)) (.asgT (.tup (.cons (.name 6) (.cons (.name 7) .nil))) (.call 25 (.cons (.call 24 (.cons (.var 0) .nil)) (.cons (.var 5) .nil)))) [some (c, .sh), some (.int x, .sh), none, some (.lst (intz (absL cs)), .sh), some (.lst (intz (List.replicate cs.length 0)), .ow), some (.int c0.natAbs, .sh), none, none, none] = some (.nx, [some (c, .sh), some (.int x, .sh), none, some (.lst (intz (absL cs)), .sh), some (.lst (intz (List.replicate cs.length 0)), .ow), some (.int c0.natAbs, .sh), some (dv L, .sh), some (dv T, .sh), none]) := by
          rw [ex_asgT, ev_call2 (ev_call1 rfl (q_sizes_of h24 hc H.len)) rfl hq]
          simp [bind_name]
        have e7 : ex (clN F (n + 3)) (.asg 8 (.idxv 6 (.bin .mod (.var 1) (.var 5)))) [some (c, .sh), some (.int x, .sh), none, some (.lst (intz (absL cs)), .sh), some (.lst (intz (List.replicate cs.length 0)), .ow), some (.int c0.natAbs, .sh), some (dv L, .sh), some (dv T, .sh), none] = some (.nx, [some (c, .sh), some (.int x, .sh), none, some (.lst (intz (absL cs)), .sh), some (.lst (intz (List.replicate cs.length 0)), .ow), some (.int c0.natAbs, .sh), some (dv L, .sh), some (dv T, .sh), some (.int w, .sh)]) :=
          (ex_asgS (env1 := [some (c, .sh), some (.int x, .sh), none, some (.lst (intz (absL cs)), .sh), some (.lst (intz (List.replicate cs.length 0)), .ow), some (.int c0.natAbs, .sh), some (dv L, .sh), some (dv T, .sh), none]) (ev_idxD rfl (ev_modE hm0.1 rfl rfl) rfl hw1) rfl).trans rfl
        have e8 : ex (clN F (n + 3)) (.seti 4 (.mcall .index (.var 3) (.cons (.var 5) .nil)) (.bin .fdiv (.bin .sub (.var 1) (.var 8)) (.var 5))) [some (c, .sh), some (.int x, .sh), none, some (.lst (intz (absL cs)), .sh), some (.lst (intz (List.replicate cs.length 0)), .ow), some (.int c0.natAbs, .sh), some (dv L, .sh), some (dv T, .sh), some (.int w, .sh)] =
            some (.nx, [some (c, .sh), some (.int x, .sh), none, some (.lst (intz (absL cs)), .sh), some (.lst (intz ((List.replicate cs.length (0 : Int)).set j ((x - w) / (c0.natAbs : Int)))), .ow), some (.int c0.natAbs, .sh), some (dv L, .sh), some (dv T, .sh), some (.int w, .sh)]) := by
          have hi : ev (clN F (n + 3)) (.mcall .index (.var 3) (.cons (.var 5) .nil)) [some (c, .sh), some (.int x, .sh), none, some (.lst (intz (absL cs)), .sh), some (.lst (intz (List.replicate cs.length 0)), .ow), some (.int c0.natAbs, .sh), some (dv L, .sh), some (dv T, .sh), some (.int w, .sh)] = some ((.int j, false), [some (c, .sh), some (.int x, .sh), none, some (.lst (intz (absL cs)), .sh), some (.lst (intz (List.replicate cs.length 0)), .ow), some (.int c0.natAbs, .sh), some (dv L, .sh), some (dv T, .sh), some (.int w, .sh)]) := ev_index rfl rfl hj
          have hv : ev (clN F (n + 3)) (.bin .fdiv (.bin .sub (.var 1) (.var 8)) (.var 5)) [some (c, .sh), some (.int x, .sh), none, some (.lst (intz (absL cs)), .sh), some (.lst (intz (List.replicate cs.length 0)), .ow), some (.int c0.natAbs, .sh), some (dv L, .sh), some (dv T, .sh), some (.int w, .sh)] = some ((.int ((x - w) / (c0.natAbs : Int)), false), [some (c, .sh), some (.int x, .sh), none, some (.lst (intz (absL cs)), .sh), some (.lst (intz (List.replicate cs.length 0)), .ow), some (.int c0.natAbs, .sh), some (dv L, .sh), some (dv T, .sh), some (.int w, .sh)]) :=
            ev_eqv hfd (ev_fdiv (by omega) (by omega) (ev_sub rfl rfl) rfl)
          have hjf : j < (intz (List.replicate cs.length 0)).length := by simp [intz]; omega
          simp only [ex_seti, hv, has, eget, Option.isSome_some, if_true, hi, chg, setV_l hjf, ints_set, nxt_some, eset]
        exact cl_ret h110 rfl (ex_seq' (ex_if e1 (fun h => by cases h) fun _ => ex_skip) (ex_seq' e2 (ex_seq' e3 (ex_seq' (ex_if e4 (fun _ => ex_seq' e5 (ex_seq' e6 (ex_seq' e7 (ex_seq' e8 (ex_while.trans hwl))))) fun h => by cases h) (ex_ret' rfl rfl)))))
    · have : x = 0 := by omega
      subst this
      refine ⟨List.replicate cs.length 0, by simp, fun y hy => by have := (List.mem_replicate.mp hy).2; omega, dotA_zero _ _, ?_⟩
      have e4 : boolR (ev (clN F (n + 3)) (.cmp .gt (.var 1) (.const (.int 0))) [some (c, .sh), some (.int 0, .sh), none, some (.lst (intz (absL cs)), .ow), some (.lst (intz (List.replicate cs.length 0)), .ow), none, none, none, none]) = some (false, [some (c, .sh), some (.int 0, .sh), none, some (.lst (intz (absL cs)), .ow), some (.lst (intz (List.replicate cs.length 0)), .ow), none, none, none, none]) := boolR_as rfl rfl
      exact cl_ret h110 rfl (ex_seq' (ex_if e1 (fun h => by cases h) fun _ => ex_skip) (ex_seq' e2 (ex_seq' e3 (ex_seq' (ex_if e4 (fun h => by cases h) fun _ => ex_skip) (ex_ret' rfl rfl)))))
end
end QS

end
section
set_option Elab.async false
set_option linter.all false
set_option maxRecDepth 100000
/-! unknown.py: why_never; nests.py: touch -/
namespace QS
open PySem (Str)
open Q
def mixed (cs : List Int) : Prop := (∃ c ∈ cs, 0 < c) ∧ ∃ c ∈ cs, ¬ 0 < c
def WordIs (cs : List Int) (x : Int) (w : Val) : Prop :=
  (¬ (gcdL cs : Int) ∣ x → w = .str "step") ∧ ((gcdL cs : Int) ∣ x → ((x = 0 ∨ mixed cs) → w = .none) ∧ (¬ (x = 0 ∨ mixed cs) →
    (decide (0 < x) ≠ decide (0 < cs.headD 0) → w = .str "sign") ∧ (decide (0 < x) = decide (0 < cs.headD 0) → (HeapR (ssOf cs) x.natAbs → w = .none) ∧ (¬ HeapR (ssOf cs) x.natAbs → w = .str "gap"))))
theorem asBools_map (l : List Bool) : asBools (l.map .bool) = some l := by
  induction l with
  | nil => rfl
  | cons b l ih => show (match asBools (l.map .bool) with | some l => some (b :: l) | none => none) = _; rw [ih]
theorem sq_head {c : Val} {c0 : Int} {cs : List Int} (hc : Sq c (c0 :: cs)) : idxV c (.int 0) = some (.int c0) := by
  rcases hc with rfl | rfl <;> exact atI_nat (k := 0) rfl
def isNoneV : Val → Bool
  | .none => true
  | _ => false
theorem ev_cmpG {cl : Cl} {env env1 env2 : Env} {a b : E} {x y : Val} {k k' : Bool} {c : Cm} {r : Bool} (ha : ev cl a env = some ((x, k), env1)) (hb : ev cl b env1 = some ((y, k'), env2)) (h : cmpv c x y = some r) : ev cl (.cmp c a b) env = some ((.bool r, false), env2) := by
  simp only [ev_cmp, ha, hb, h, mkB_some]
section
variable {F : Nat → Option Fn} {n : Nat} {c : Val} {cs : List Int}
theorem q_word_for (h3 : F 3 = some p_step) (h4 : F 4 = some p_divides) (h24 : F 24 = some p_sizes_of) (h27 : F 27 = some p_is_above) (h39 : F 39 = some p_word_for) (hc : Sq c cs) (H : Hc cs) {s0 : Int} {r : List Int} (hs : ssOf cs = s0 :: r) {L T : D} (cf : CF (ssOf cs) s0 L T) {x : Int} :
    ∃ w, clN F (n + 2) 39 false [c, dv L, .int x] = some ((w, false), .none) ∧ WordIs cs x w := by
  have hm0 := H.ss s0 (by rw [hs]; simp)
  generalize hE : ([some (c, .sh), some (dv L, .sh), some (.int x, .sh), none] : Env) = env
  have v0 : ev (clN F (n + 1)) (.var 0) env = some ((c, false), env) := by subst hE; rfl
  have v1 : ev (clN F (n + 1)) (.var 1) env = some ((dv L, false), env) := by subst hE; rfl
  have v2 : ev (clN F (n + 1)) (.var 2) env = some ((.int x, false), env) := by subst hE; rfl
  have e1 : boolR (ev (clN F (n + 1)) (.not (.call 4 (.cons (.call 3 (.cons (.var 0) .nil)) (.cons (.var 2) .nil)))) env) = some (!decide ((gcdL cs : Int) ∣ x), env) := by
    rw [ev_not, ev_call2 (ev_call1 v0 (q_step h3 hc H.okc)) v2 (q_divides h4)]
    have : (if (gcdL cs : Int) = 0 then decide (x = 0) else decide (x % (gcdL cs : Int) = 0)) = decide ((gcdL cs : Int) ∣ x) := by
      split
      · rename_i h; rw [h]; exact decide_eq_decide.mpr Int.zero_dvd.symm
      · exact decide_eq_decide.mpr Int.dvd_iff_emod_eq_zero.symm
    rw [this]; rfl
  have hcomp : ev (clN F (n + 1)) (.comp (.cmp .gt (.var 3) (.const (.int 0))) (.name 3) (.var 0) (.const (.bool true))) env = some ((.lst (cs.map fun c => .bool (decide (0 < c))), true), env) := by
    subst hE
    exact ev_compT Val.int _ (it_seq rfl hc) rfl (fun x hx => ⟨_, rfl, _, _, rfl, rfl⟩) (fun env1 a h => by cases h; rfl)
  have hmixN : (1 < ((if true ∈ cs.map (fun c => decide (0 < c)) then 1 else 0) + (if false ∈ cs.map (fun c => decide (0 < c)) then 1 else 0) : Int)) ↔ mixed cs := by
    have t1 : true ∈ cs.map (fun c => decide (0 < c)) ↔ ∃ c ∈ cs, 0 < c := by simp
    have t2 : false ∈ cs.map (fun c => decide (0 < c)) ↔ ∃ c ∈ cs, ¬ 0 < c := by simp
    unfold mixed
    rw [← t1, ← t2]
    by_cases a1 : true ∈ cs.map (fun c => decide (0 < c)) <;> by_cases a2 : false ∈ cs.map (fun c => decide (0 < c)) <;> simp [a1, a2]
  have hlen : ev (clN F (n + 1)) (.bcall .lenset (.cons (.comp (.cmp .gt (.var 3) (.const (.int 0))) (.name 3) (.var 0) (.const (.bool true))) .nil)) env = some ((.int ((if true ∈ cs.map (fun c => decide (0 < c)) then 1 else 0) + (if false ∈ cs.map (fun c => decide (0 < c)) then 1 else 0)), false), env) := by
    have hm : (cs.map fun c => Val.bool (decide (0 < c))) = (cs.map fun c => decide (0 < c)).map .bool := by simp
    rw [hm] at hcomp
    obtain ⟨c0, r0, rfl⟩ := List.exists_cons_of_ne_nil H.ne
    simp only [ev_bcall, evs_cons, evs_nil, hcomp, bcallV, vals_cons, vals_nil, bLenset, asBools_map]
    rfl
  obtain ⟨mb, hmb⟩ : ∃ mb : Bool, mb = true ↔ mixed cs := by
    by_cases h : mixed cs
    · exact ⟨true, by simp [h]⟩
    · exact ⟨false, by simp [h]⟩
  have e2 : boolR (ev (clN F (n + 1)) (.or (.cmp .eq (.var 2) (.const (.int 0))) (.cmp .gt (.bcall .lenset (.cons (.comp (.cmp .gt (.var 3) (.const (.int 0))) (.name 3) (.var 0) (.const (.bool true))) .nil)) (.const (.int 1)))) env) = some (decide (x = 0) || mb, env) := by
    refine boolR_of (ev_or' (boolR_of (ev_eqI v2 (ev_const))) fun _ => boolR_as (ev_cmpI hlen (ev_const) rfl) ?_)
    have : mb = decide (1 < ((if true ∈ cs.map (fun c => decide (0 < c)) then 1 else 0) + (if false ∈ cs.map (fun c => decide (0 < c)) then 1 else 0) : Int)) := by
      have h1 := hmb.trans hmixN.symm
      cases mb <;> simp_all
    rw [this]
  have e3 : boolR (ev (clN F (n + 1)) (.cmp .ne (.cmp .gt (.var 2) (.const (.int 0))) (.cmp .gt (.idxv 0 (.const (.int 0))) (.const (.int 0)))) env) = some (!(decide (0 < x) == decide (0 < cs.headD 0)), env) := by
    obtain ⟨c0, r0, rfl⟩ := List.exists_cons_of_ne_nil H.ne
    have h0 : ev (clN F (n + 1)) (.idxv 0 (.const (.int 0))) env = some ((.int c0, false), env) := by
      subst hE
      simp [has, sq_head hc]
    have a1 : ev (clN F (n + 1)) (.cmp .gt (.var 2) (.const (.int 0))) env = some ((.bool (decide (0 < x)), false), env) := ev_cmpI v2 ev_const rfl
    have a2 : ev (clN F (n + 1)) (.cmp .gt (.idxv 0 (.const (.int 0))) (.const (.int 0))) env = some ((.bool (decide (0 < c0)), false), env) := ev_cmpI h0 ev_const rfl
    exact boolR_of (ev_cmpG a1 a2 (by simp only [cmpv, dat8, dat, Bool.and_self, if_true, veq, List.headD_cons]; rfl))
  obtain ⟨b, hb, hbi⟩ := q_is_above (F := F) (n := n) (L := L) (x := (x.natAbs : Int)) h27 hm0.1
  have hbi' : b = true ↔ HeapR (ssOf cs) x.natAbs := hbi.trans (cf.iff hm0.1 (by rw [hs]; simp)).symm
  have e4 : boolR (ev (clN F (n + 1)) (.call 27 (.cons (.var 1) (.cons (.idx (.call 24 (.cons (.var 0) .nil)) (.const (.int 0))) (.cons (.bcall .abs (.cons (.var 2) .nil)) .nil)))) env) = some (b, env) := by
    rw [ev_call3 v1 (q_size0 h24 hs v0 hc H.len) (ev_abs v2) hb]; rfl
  have body : ∀ w, ex (clN F (n + 1)) p_word_for.body env = some (.ret (w, false), env) → clN F (n + 2) 39 false [c, dv L, .int x] = some ((w, false), .none) := fun w h => cl_ret h39 rfl (by rw [← hE] at h; exact h)
  by_cases d : (gcdL cs : Int) ∣ x
  · have s1 := ex_if (r := some (.nx, env)) (s := .ret (.const (.str "step"))) (t := .skip) e1 (fun h => by simp [d] at h) (fun _ => ex_skip)
    by_cases m : x = 0 ∨ mixed cs
    · refine ⟨.none, body _ (ex_seq' s1 (ex_seqR (ex_if e2 (fun _ => ex_ret' rfl ev_const) fun h => ?_))), fun h => absurd d h, fun _ => ⟨fun _ => rfl, fun h => absurd m h⟩⟩
      rcases m with m | m
      · simp [m] at h
      · rw [hmb.mpr m] at h; simp at h
    · have s2 := ex_if (r := some (.nx, env)) (s := .ret (.const .none)) (t := .skip) e2 (fun h => by
        rw [Bool.or_eq_true, decide_eq_true_eq] at h
        exact absurd (h.imp id fun z => hmb.mp z) m) (fun _ => ex_skip)
      by_cases sg : decide (0 < x) = decide (0 < cs.headD 0)
      · have s3 := ex_if (r := some (.nx, env)) (s := .ret (.const (.str "sign"))) (t := .skip) e3 (fun h => by simp [sg] at h) (fun _ => ex_skip)
        cases b with
        | true =>
          refine ⟨.none, body _ (ex_seq' s1 (ex_seq' s2 (ex_seq' s3 (ex_ret' rfl (ev_ite' e4 (fun _ => ev_const) fun h => by cases h))))), fun h => absurd d h, fun _ => ⟨fun h => absurd h m, fun _ => ⟨fun h => absurd sg h, fun _ => ⟨fun _ => rfl, fun h => absurd (hbi'.mp rfl) h⟩⟩⟩⟩
        | false =>
          refine ⟨.str "gap", body _ (ex_seq' s1 (ex_seq' s2 (ex_seq' s3 (ex_ret' rfl (ev_ite' e4 (fun h => by cases h) fun _ => ev_const))))), fun h => absurd d h, fun _ => ⟨fun h => absurd h m, fun _ => ⟨fun h => absurd sg h, fun _ => ⟨fun h => ?_, fun _ => rfl⟩⟩⟩⟩
          have := hbi'.mpr h; cases this
      · refine ⟨.str "sign", body _ (ex_seq' s1 (ex_seq' s2 (ex_seqR (ex_if e3 (fun _ => ex_ret' rfl ev_const) fun h => ?_)))), fun h => absurd d h, fun _ => ⟨fun h => absurd h m, fun _ => ⟨fun _ => rfl, fun h => absurd h sg⟩⟩⟩
        exact absurd (by simpa using h) sg
  · refine ⟨.str "step", body _ (ex_seqR (ex_if e1 (fun _ => ex_ret' rfl ev_const) fun h => by simp [d] at h)), fun _ => rfl, fun h => absurd h d⟩
theorem q_why_never (h3 : F 3 = some p_step) (h4 : F 4 = some p_divides) (h24 : F 24 = some p_sizes_of) (h25 : F 25 = some p_classes_by) (h26 : F 26 = some p_least_heaps) (h27 : F 27 = some p_is_above) (h39 : F 39 = some p_word_for) (h82 : F 82 = some p_why_never) (hc : Sq c cs) (H : Hc cs) {x : Int} :
    ∃ w, clN F (n + 3) 82 false [c, .int x] = some ((w, false), .none) ∧ WordIs cs x w := by
  obtain ⟨s0, r, hs⟩ := ssOf_ne H.ne
  obtain ⟨L, T, cf, hq⟩ := q_least_heaps (n := n) h24 h25 h26 hc H hs
  obtain ⟨w, hw, hW⟩ := q_word_for (n := n) (x := x) h3 h4 h24 h27 h39 hc H hs cf
  exact ⟨w, cl_ret h82 rfl (ex_ret' rfl (ev_call3 rfl (ev_call1 rfl hq) rfl hw)), hW⟩
theorem q_comes_at_all (h3 : F 3 = some p_step) (h4 : F 4 = some p_divides) (h24 : F 24 = some p_sizes_of) (h25 : F 25 = some p_classes_by) (h26 : F 26 = some p_least_heaps) (h27 : F 27 = some p_is_above) (h39 : F 39 = some p_word_for) (h82 : F 82 = some p_why_never) (h83 : F 83 = some p_comes_at_all) (hc : Sq c cs) (H : Hc cs) {x : Int} :
    ∃ w b, clN F (n + 4) 83 false [c, .int x] = some ((.bool b, false), .none) ∧ WordIs cs x w ∧ (b = true ↔ w = .none) := by
  obtain ⟨w, hw, hW⟩ := q_why_never (n := n) (x := x) h3 h4 h24 h25 h26 h27 h39 h82 hc H
  have key : ev (clN F (n + 3)) (.cmp .isN (.call 82 (.cons (.var 0) (.cons (.var 1) .nil))) (.const .none)) [some (c, .sh), some (.int x, .sh)] = some ((.bool (isNoneV w), false), [some (c, .sh), some (.int x, .sh)]) := by
    rw [ev_cmp, ev_call2 rfl rfl hw]
    simp only [ev_const, cmpv, mkB_some]
    cases w <;> rfl
  exact ⟨w, (isNoneV w), cl_ret h83 rfl (ex_ret' rfl key), hW, by cases w <;> simp [isNoneV]⟩
end
end QS

end
section
set_option Elab.async false
set_option linter.all false
set_option maxRecDepth 100000
/-! the laws' own helpers: draws, sameness, the greatest common divisor -/
namespace QS
open PySem (Str)
open Q
/-- a source of draws -/
def Tn (k : Nat) (v : Val) : Prop := ∃ a b c : Int, v = .lst [.int a, .int b, .int c] ∧ 0 ≤ c ∧ c ≤ k
theorem Tn.mono {j k : Nat} {v : Val} (h : Tn j v) (l : j ≤ k) : Tn k v := by
  obtain ⟨a, b, c, e, h1, h2⟩ := h
  exact ⟨a, b, c, e, h1, by omega⟩
section
variable {cl : Cl} {env env1 env2 : Env} {e a b : E}
theorem ev_int {x : Int} {k : Bool} (h : ev cl e env = some ((.int x, k), env1)) : ev cl (.bcall .int (.cons e .nil)) env = some ((.int x, false), env1) := by
  simp [h, bcallV, bInt, iR]
theorem ev_fdivE {x y : Int} {k k' : Bool} (h : 0 < y) (h2 : y < 1073741824) (ha : ev cl a env = some ((.int x, k), env1)) (hb : ev cl b env1 = some ((.int y, k'), env2)) : ev cl (.bin .fdiv a b) env = some ((.int (x / y), false), env2) := by
  have := ev_fdiv (by omega) (by omega) ha hb
  rw [Int.fdiv_eq_ediv_of_nonneg _ (by omega)] at this
  exact this
theorem ex_setiL {i : Nat} {ix : E} {x y : Int} {l : List Val} {v : Val} {j : Nat} {k k' : Bool} {f : Fl} (he : ev cl e env = some ((v, k), env1)) (hh : has env1 i = true) (hx : ev cl ix env1 = some ((.int j, k'), env2)) (hl : eget env2 i = some (.lst l, f)) (hf : f ≠ .sh) (hj : j < l.length) :
    ex cl (.seti i ix e) env = some (.nx, eset env2 i (some (.lst (l.set j v), f))) := by
  simp only [ex_seti, he, hh, if_true, hx, chg, hl]
  cases f with
  | sh => exact absurd rfl hf
  | ow => simp only [setV_l hj, nxt_some]
  | ln => simp only [setV_l hj, nxt_some]
end
section
variable {F : Nat → Option Fn} {n : Nat}
theorem q_take (h43 : F 43 = some p_law_take) {k : Nat} {v : Val} {m : Int} (hv : Tn k v) (hk : k ≤ 1000000000) (hm : 0 < m) (hm2 : m < 1073741824) :
    ∃ r v', clN F (n + 1) 43 true [v, .int m] = some ((.int r, false), v') ∧ 0 ≤ r ∧ r < m ∧ Tn (k + 1) v' := by
  obtain ⟨a, b, c, rfl, hc0, hck⟩ := hv
  by_cases ha : 0 < a
  · refine ⟨a % m, .lst [.int (a / m), .int b, .int c], ?_, Int.emod_nonneg _ (by omega), Int.emod_lt_of_pos _ hm, _, _, _, rfl, hc0, by omega⟩
    have e1 : ex (clN F n) (.asg 2 (.bin .mod (.bcall .int (.cons (.idxv 0 (.const (.int 0))) .nil)) (.var 1))) [some (.lst [.int a, .int b, .int c], .ln), some (.int m, .sh), none, none, none, none] = some (.nx, [some (.lst [.int a, .int b, .int c], .ln), some (.int m, .sh), some (.int (a % m), .sh), none, none, none]) :=
      (ex_asgS (env1 := [some (.lst [.int a, .int b, .int c], .ln), some (.int m, .sh), none, none, none, none]) (ev_modE hm (ev_int rfl) rfl) rfl).trans rfl
    have e2 : ex (clN F n) (.seti 0 (.const (.int 0)) (.bin .fdiv (.idxv 0 (.const (.int 0))) (.var 1))) [some (.lst [.int a, .int b, .int c], .ln), some (.int m, .sh), some (.int (a % m), .sh), none, none, none] = some (.nx, [some (.lst [.int (a / m), .int b, .int c], .ln), some (.int m, .sh), some (.int (a % m), .sh), none, none, none]) :=
      (ex_setiL (j := 0) (x := 0) (y := 0) (env2 := [some (.lst [.int a, .int b, .int c], .ln), some (.int m, .sh), some (.int (a % m), .sh), none, none, none]) (ev_fdivE hm hm2 rfl rfl) rfl rfl rfl (by simp) (by simp)).trans rfl
    exact cl_retio h43 rfl (ex_seqR (ex_if (p := true) (boolR_as rfl (by simpa using ha)) (fun _ => ex_seq' e1 (ex_seq' e2 rfl)) fun h => by cases h))
  · -- mixed numbers
    have hc1 : (c + 1).natAbs < 18446744073709551616 := by omega
    let o := ((b + 48271 * (c + 1)) * (39373 + (c + 1))) % 2147483647
    let wd := o % 40009 + 7
    let t := ((o + (c + 1) + b / 1000003) * wd) % 2147483629
    have ho : 0 ≤ o ∧ o < 2147483647 := ⟨Int.emod_nonneg _ (by omega), Int.emod_lt_of_pos _ (by omega)⟩
    have hw : 0 ≤ o % 40009 ∧ o % 40009 < 40009 := ⟨Int.emod_nonneg _ (by omega), Int.emod_lt_of_pos _ (by omega)⟩
    have ht : 0 ≤ t ∧ t < 2147483629 := ⟨Int.emod_nonneg _ (by omega), Int.emod_lt_of_pos _ (by omega)⟩
    refine ⟨((t * 48271 + o) % 2147483587 / 64) % m, .lst [.int a, .int b, .int (c + 1)], ?_, Int.emod_nonneg _ (by omega), Int.emod_lt_of_pos _ hm, _, _, _, rfl, by omega, by omega⟩
    generalize hE : ([some (.lst [.int a, .int b, .int (c + 1)], .ln), some (.int m, .sh), none, none, none, none] : Env) = E0
    generalize hE1 : ([some (.lst [.int a, .int b, .int (c + 1)], .ln), some (.int m, .sh), none, some (.int o, .sh), none, none] : Env) = E1
    generalize hE2 : ([some (.lst [.int a, .int b, .int (c + 1)], .ln), some (.int m, .sh), none, some (.int o, .sh), some (.int wd, .sh), none] : Env) = E2
    generalize hE3 : ([some (.lst [.int a, .int b, .int (c + 1)], .ln), some (.int m, .sh), none, some (.int o, .sh), some (.int wd, .sh), some (.int t, .sh)] : Env) = E3
    have e1 : ex (clN F n) (.seti 0 (.const (.int 2)) (.bin .add (.idxv 0 (.const (.int 2))) (.const (.int 1)))) [some (.lst [.int a, .int b, .int c], .ln), some (.int m, .sh), none, none, none, none] = some (.nx, E0) := by
      subst hE
      exact (ex_setiL (j := 2) (x := 0) (y := 0) (env2 := [some (.lst [.int a, .int b, .int c], .ln), some (.int m, .sh), none, none, none, none]) (ev_add rfl rfl) rfl rfl rfl (by simp) (by simp)).trans rfl
    have e2 : ex (clN F n) (.asg 3 (.bin .mod (.bcall .int (.cons (.bin .mul (.bin .add (.idxv 0 (.const (.int 1))) (.bin .mul (.const (.int 48271)) (.idxv 0 (.const (.int 2))))) (.bin .add (.const (.int 39373)) (.idxv 0 (.const (.int 2))))) .nil)) (.const (.int 2147483647)))) E0 = some (.nx, E1) := by
      subst hE hE1
      exact (ex_asgS (env1 := [some (.lst [.int a, .int b, .int (c + 1)], .ln), some (.int m, .sh), none, none, none, none]) (ev_modE (by omega) (ev_int (ev_mul (okMul_r (by omega)) (ev_add rfl (ev_mul (okMul_l (by omega)) rfl rfl)) (ev_add rfl rfl))) rfl) rfl).trans rfl
    have e3 : ex (clN F n) (.asg 4 (.bin .add (.bin .mod (.bcall .int (.cons (.var 3) .nil)) (.const (.int 40009))) (.const (.int 7)))) E1 = some (.nx, E2) := by
      subst hE1 hE2
      exact (ex_asgS (env1 := [some (.lst [.int a, .int b, .int (c + 1)], .ln), some (.int m, .sh), none, some (.int o, .sh), none, none]) (ev_add (ev_modE (by omega) (ev_int rfl) rfl) rfl) rfl).trans rfl
    have e4 : ex (clN F n) (.asg 5 (.bin .mod (.bcall .int (.cons (.bin .mul (.bin .add (.bin .add (.var 3) (.idxv 0 (.const (.int 2)))) (.bin .fdiv (.idxv 0 (.const (.int 1))) (.const (.int 1000003)))) (.var 4)) .nil)) (.const (.int 2147483629)))) E2 = some (.nx, E3) := by
      subst hE2 hE3
      exact (ex_asgS (env1 := [some (.lst [.int a, .int b, .int (c + 1)], .ln), some (.int m, .sh), none, some (.int o, .sh), some (.int wd, .sh), none]) (ev_modE (by omega) (ev_int (ev_mul (okMul_r (by omega)) (ev_add (ev_add rfl rfl) (ev_fdivE (by omega) (by omega) rfl rfl)) rfl)) rfl) rfl).trans rfl
    have e5 : ev (clN F n) (.bin .mod (.bcall .int (.cons (.bin .fdiv (.bin .mod (.bcall .int (.cons (.bin .add (.bin .mul (.var 5) (.const (.int 48271))) (.var 3)) .nil)) (.const (.int 2147483587))) (.const (.int 64))) .nil)) (.var 1)) E3 = some ((.int (((t * 48271 + o) % 2147483587 / 64) % m), false), E3) := by
      subst hE3
      exact ev_modE hm (ev_int (ev_fdivE (by omega) (by omega) (ev_modE (by omega) (ev_int (ev_add (ev_mul (okMul_r (by omega)) rfl rfl) rfl)) rfl) rfl)) rfl
    refine cl_retio (env' := [some (.int m, .sh), none, some (.int o, .sh), some (.int wd, .sh), some (.int t, .sh)]) h43 rfl (ex_seq' (ex_if (p := false) (boolR_as rfl (by simpa using ha)) (fun h => by cases h) fun _ => ex_skip) (ex_seq' e1 (ex_seq' e2 (ex_seq' e3 (ex_seq' e4 ((ex_ret' rfl e5).trans ?_))))))
    rw [← hE3]
theorem q_of (h43 : F 43 = some p_law_take) (h87 : F 87 = some p_law_of) {k : Nat} {v g : Val} {l : List Val} (hv : Tn k v) (hk : k ≤ 1000000000) (hg : g = .lst l ∨ g = .tup l) (hl : l ≠ []) (hl2 : l.length < 1000000000) :
    ∃ (r : Nat) (x : Val) (v' : Val), l[r]? = some x ∧ clN F (n + 2) 87 true [v, g] = some ((x, false), v') ∧ Tn (k + 1) v' := by
  have hpos := List.length_pos_iff.mpr hl
  obtain ⟨r, v', h1, h2, h3, h4⟩ := q_take (n := n) h43 hv hk (m := l.length) (by omega) (by omega)
  have hr : r.toNat < l.length := by omega
  refine ⟨r.toNat, l[r.toNat], v', List.getElem?_eq_getElem hr, ?_, h4⟩
  have hlen : ev (clN F (n + 1)) (.lenv 1) [some (v, .ln), some (g, .sh)] = some ((.int (l.length : Int), false), [some (v, .ln), some (g, .sh)]) := by
    rcases hg with rfl | rfl <;> simp [bLen, iR]
  have hcall : ev (clN F (n + 1)) (.callio 43 0 (.cons (.lenv 1) .nil)) [some (v, .ln), some (g, .sh)] = some ((.int r, false), [some (v', .ln), some (g, .sh)]) := by
    simp only [ev_callio, has, eget, Option.isSome_some, if_true, evs_cons, hlen, evs_nil, vals_cons, vals_nil, h1, eset]
  have hat : atI l r = some l[r.toNat] := by
    have := atI_nat (List.getElem?_eq_getElem hr)
    rw [Int.toNat_of_nonneg h2] at this
    exact this
  refine cl_retio (env' := [some (g, .sh)]) h87 rfl (ex_ret' rfl ?_)
  show ev (clN F (n + 1)) (.idxv 1 (.callio 43 0 (.cons (.lenv 1) .nil))) [some (v, .ln), some (g, .sh)] = _
  rw [ev_idxv, hcall]
  rcases hg with rfl | rfl <;> simp [has, idxV, hat]
/-! ### sameness -/
theorem veq_refl : ∀ (d : Nat) (v : Val), dat d v = true → veq v v = true := by
  intro d
  induction d with
  | zero => intro v h; cases v <;> simp [dat, veq] at h ⊢
  | succ d ih =>
    have ihL : ∀ l : List Val, l.all (dat d) = true → veqL l l = true := by
      intro l
      induction l with
      | nil => intro _; rfl
      | cons x l ihl =>
        intro h
        rw [List.all_cons, Bool.and_eq_true] at h
        show (veq x x && veqL l l) = true
        rw [ih x h.1, ihl h.2]; rfl
    intro v h
    cases v with
    | tup l => exact ihL l (by simpa [dat] using h)
    | lst l => exact ihL l (by simpa [dat] using h)
    | _ => simp [dat, veq] at h ⊢
theorem dat_mono : ∀ (d : Nat) (v : Val), dat d v = true → dat (d + 1) v = true := by
  intro d
  induction d with
  | zero => intro v h; cases v <;> simp [dat] at h ⊢ <;> exact h
  | succ d ih =>
    intro v h
    cases v with
    | tup l => simp only [dat, List.all_eq_true] at h ⊢; exact fun x hx => ih x (h x hx)
    | lst l => simp only [dat, List.all_eq_true] at h ⊢; exact fun x hx => ih x (h x hx)
    | str x => simpa [dat] using h
    | none => rfl
    | bool b => rfl
    | int i => rfl
    | _ => simp [dat] at h
theorem dat_le {d e : Nat} (h : d ≤ e) {v : Val} (hv : dat d v = true) : dat e v = true := by
  induction h with
  | refl => exact hv
  | step _ ih => exact dat_mono _ _ ih
theorem zip2_self : ∀ l : List Val, zip2 l l = l.map fun x => .tup [x, x]
  | [] => rfl
  | x :: l => by show Val.tup [x, x] :: zip2 l l = _; rw [zip2_self l]; rfl
theorem asBools_true {α : Type} (l : List α) : asBools (l.map fun _ => Val.bool true) = some (l.map fun _ => true) := by
  have := asBools_map (l.map fun _ => true)
  rw [List.map_map] at this
  exact this
theorem q_same (h46 : F 46 = some p_law_same) : ∀ (d : Nat) (v : Val) (n : Nat), d ≤ 8 → dat d v = true → clN F (n + d + 1) 46 false [v, v] = some ((.bool true, false), .none) := by
  intro d
  induction d with
  | zero =>
    intro v n _ h
    cases v with
    | none => exact cl_ret h46 rfl rfl
    | bool b => cases b <;> exact cl_ret h46 rfl rfl
    | int i =>
      have e3 : ev (clN F (n + 0)) (.cmp .eq (.var 0) (.var 1)) [some (.int i, .sh), some (.int i, .sh), none, none] = some ((.bool true, false), [some (.int i, .sh), some (.int i, .sh), none, none]) := (ev_eqI rfl rfl).trans (by simp)
      exact cl_ret h46 rfl (ex_seq' rfl (ex_seq' rfl (ex_seq' rfl (ex_ret' rfl (ev_and' (p := true) (q := true) rfl fun _ => boolR_of (ev_and' (p := true) (q := true) rfl fun _ => boolR_of e3))))))
    | str x =>
      have hx : strOk x = true := by simpa [dat] using h
      have e3 : ev (clN F (n + 0)) (.cmp .eq (.var 0) (.var 1)) [some (.str x, .sh), some (.str x, .sh), none, none] = some ((.bool true, false), [some (.str x, .sh), some (.str x, .sh), none, none]) := ev_cmpG rfl rfl (by simp [cmpv, dat8, dat, hx, veq])
      exact cl_ret h46 rfl (ex_seq' rfl (ex_seq' rfl (ex_seqR (ex_if (p := true) rfl (fun _ => ex_ret' rfl (ev_and' (p := true) (q := true) rfl fun _ => boolR_of (ev_and' (p := true) (q := true) rfl fun _ => boolR_of e3))) fun h => by cases h))))
    | _ => simp [dat] at h
  | succ d ih =>
    intro v n hd h
    have lift : ∀ u : Val, clN F (n + 1 + d + 1) 46 false [u, u] = some ((.bool true, false), .none) → clN F (n + (d + 1) + 1) 46 false [u, u] = some ((.bool true, false), .none) := fun u z => by
      have e : n + 1 + d + 1 = n + (d + 1) + 1 := by omega
      rw [e] at z; exact z
    have key : ∀ (l : List Val), (v = .lst l ∨ v = .tup l) → l.all (dat d) = true → clN F (n + (d + 1) + 1) 46 false [v, v] = some ((.bool true, false), .none) := by
      intro l hv hl
      rw [List.all_eq_true] at hl
      have hcomp : ev (clN F (n + (d + 1))) (.comp (.call 46 (.cons (.var 2) (.cons (.var 3) .nil))) (.tup (.cons (.name 2) (.cons (.name 3) .nil))) (.zip (.cons (.var 0) (.cons (.var 1) .nil))) (.const (.bool true))) [some (v, .sh), some (v, .sh), none, none] = some ((.lst (l.map fun _ => .bool true), true), [some (v, .sh), some (v, .sh), none, none]) := by
        refine ev_compT (fun x => .tup [x, x]) _ ?_ rfl (fun x hx => ⟨_, rfl, _, _, ev_call2 rfl rfl (ih x n (by omega) (hl x hx)), rfl⟩) (fun env1 a h => by cases h; rfl)
        rcases hv with rfl | rfl <;> simp [zipV, seqOf, zip2_self]
      have hall : ev (clN F (n + (d + 1))) (.bcall .all (.cons (.comp (.call 46 (.cons (.var 2) (.cons (.var 3) .nil))) (.tup (.cons (.name 2) (.cons (.name 3) .nil))) (.zip (.cons (.var 0) (.cons (.var 1) .nil))) (.const (.bool true))) .nil)) [some (v, .sh), some (v, .sh), none, none] = some ((.bool true, false), [some (v, .sh), some (v, .sh), none, none]) := by
        simp only [ev_bcall, evs_cons, hcomp, evs_nil, vals_cons, vals_nil, bcallV, oB, asBools_true, mk_some]
        have : (l.map fun _ => true).all id = true := by simp
        rw [this]
      have hlen : ev (clN F (n + (d + 1))) (.cmp .eq (.lenv 0) (.lenv 1)) [some (v, .sh), some (v, .sh), none, none] = some ((.bool true, false), [some (v, .sh), some (v, .sh), none, none]) := by
        rcases hv with rfl | rfl <;> simp [bLen, iR, cmpv, dat8, dat, veq]
      have e1 : boolR (ev (clN F (n + (d + 1))) (.isi (.var 1) [.list, .tuple]) [some (v, .sh), some (v, .sh), none, none]) = some (true, [some (v, .sh), some (v, .sh), none, none]) := by
        rcases hv with rfl | rfl <;> rfl
      have e2 : boolR (ev (clN F (n + (d + 1))) (.or (.cmp .ne (.isi (.var 0) [.list]) (.isi (.var 1) [.list])) (.cmp .ne (.isi (.var 0) [.tuple]) (.isi (.var 1) [.tuple]))) [some (v, .sh), some (v, .sh), none, none]) = some (false, [some (v, .sh), some (v, .sh), none, none]) := by
        rcases hv with rfl | rfl <;> rfl
      exact cl_ret h46 rfl (ex_seqR (ex_if e1 (fun _ => ex_seq' (ex_if e2 (fun h => by cases h) fun _ => ex_skip) (ex_ret' rfl (ev_and' (p := true) (q := true) (boolR_of hlen) fun _ => boolR_of hall))) fun h => by cases h))
    cases v with
    | lst l => exact key l (.inl rfl) (by simpa [dat] using h)
    | tup l => exact key l (.inr rfl) (by simpa [dat] using h)
    | none => exact lift _ (ih .none (n + 1) (by omega) (dat_le (Nat.zero_le _) rfl))
    | bool b => exact lift _ (ih (.bool b) (n + 1) (by omega) (dat_le (Nat.zero_le _) rfl))
    | int i => exact lift _ (ih (.int i) (n + 1) (by omega) (dat_le (Nat.zero_le _) rfl))
    | str x => exact lift _ (ih (.str x) (n + 1) (by omega) (dat_le (Nat.zero_le _) (by simpa [dat] using h)))
    | _ => simp [dat] at h
end
end QS

end
section
set_option Elab.async false
set_option linter.all false
set_option maxRecDepth 100000
/-! the laws' own helpers: gcd, cells, contrary; nests.py: equation_of, touch, how_many_touchings -/
namespace QS
open PySem (Str)
open Q
section
variable {F : Nat → Option Fn} {n : Nat}
theorem common_laps (cl : Cl) (u0 u1 u2 : Slot) : ∀ (l : List Val) (a b : Nat) (o5 : Slot), b ≤ l.length → nl o5 = true →
    ∃ p5, nl p5 = true ∧ forS cl (.name 5) b_law_common_1 l [u0, u1, u2, some (.int a, .sh), some (.int b, .sh), o5] = some (.nx, [u0, u1, u2, some (.int (Nat.gcd a b), .sh), some (.int 0, .sh), p5]) := by
  intro l
  induction l with
  | nil =>
    intro a b o5 hb h5
    have : b = 0 := by simpa using hb
    subst this
    exact ⟨o5, h5, by rw [forS_nil, Nat.gcd_zero_right]; rfl⟩
  | cons v l ih =>
    intro a b o5 hb h5
    have hc : boolR (ev cl (.cmp .eq (.var 4) (.const (.int 0))) [u0, u1, u2, some (.int a, .sh), some (.int b, .sh), some (v, .sh)]) = some (decide ((b : Int) = 0), [u0, u1, u2, some (.int a, .sh), some (.int b, .sh), some (v, .sh)]) := boolR_of (ev_eqI rfl rfl)
    cases b with
    | zero =>
      refine ⟨some (v, .sh), by simp, ?_⟩
      rw [Nat.gcd_zero_right]
      exact forS_brk (bind_name (by simpa using h5)) (by rw [show b_law_common_1 = .seq (.ite (.cmp .eq (.var 4) (.const (.int 0))) .brk .skip) (.par [3, 4] (.cons (.var 4) (.cons (.bin .mod (.var 3) (.var 4)) .nil))) from rfl, ex_seq]; rw [show eset [u0, u1, u2, some (Val.int a, Fl.sh), some (Val.int ((0 : Nat) : Int), Fl.sh), o5] 5 (some (v, Fl.sh)) = [u0, u1, u2, some (.int a, .sh), some (.int ((0 : Nat) : Int), .sh), some (v, .sh)] from rfl, ex_ite, hc]; rfl)
    | succ b =>
      obtain ⟨p5, g5, h⟩ := ih (b + 1) (a % (b + 1)) (some (v, .sh)) (by have := Nat.mod_lt a (y := b + 1) (by omega); simp at hb; omega) (by simp)
      refine ⟨p5, g5, ?_⟩
      rw [show Nat.gcd a (b + 1) = Nat.gcd (b + 1) (a % (b + 1)) by rw [Nat.gcd_comm a, Nat.gcd_rec (b + 1) a, Nat.gcd_comm]]
      refine forS_nx (bind_name (by simpa using h5)) (ex_seq' (ex_if hc (fun h => by simp at h; omega) fun _ => ex_skip) ?_) h
      exact (ex_parS (env2 := [u0, u1, u2, some (.int a, .sh), some (.int (b + 1 : Nat), .sh), some (v, .sh)]) rfl (ev_eqv (y := ((a % (b + 1) : Nat) : Int)) (by omega) (ev_modE (by omega) rfl rfl)) rfl rfl).trans rfl
theorem rangeL_len (n : Nat) : ∀ (lo : Nat) (a c : Int), (rangeL lo n a c).length = n := by
  induction n with
  | zero => intro _ _ _; rfl
  | succ n ih => intro lo a c; show (_ :: rangeL (lo + 1) n a c).length = _; rw [List.length_cons, ih]
theorem rangeL_map (n : Nat) : ∀ (lo : Nat) (a c : Int), rangeL lo n a c = (List.range' lo n).map fun (k : Nat) => Val.int (a + c * k) := by
  induction n with
  | zero => intro _ _ _; rfl
  | succ n ih => intro lo a c; show _ :: rangeL (lo + 1) n a c = _; rw [ih]; rfl
theorem rangeV1 {b : Nat} (hb : b ≤ 16777216) : rangeV [.int b] = some ((List.range b).map fun (k : Nat) => .int (k : Int)) := by
  have h1 : ok62 (b : Int) = true := by unfold ok62; rw [decide_eq_true (by omega), decide_eq_true (by omega)]; rfl
  have h2 : okLen (b : Int).toNat = true := by unfold okLen; exact decide_eq_true (by rw [Int.toNat_natCast]; exact hb)
  have h3 : (ok62 (b : Int) && okLen (b : Int).toNat) = true := by rw [h1, h2]; rfl
  have h4 : rangeL 0 (b : Int).toNat 0 1 = (List.range b).map fun (k : Nat) => .int (k : Int) := by
    rw [Int.toNat_natCast, rangeL_map, ← List.range_eq_range']
    exact List.map_congr_left fun k _ => by rw [Int.one_mul, Int.zero_add]
  rw [← h4]
  unfold rangeV
  simp only [h3, if_true]
theorem it_rangeX {cl : Cl} {env env1 : Env} {a : E} {l : List Res} {m : List Val} (h : evs cl a env = some (l, env1)) (hr : rangeV (vals l) = some m) : itR (ev cl (.range a) env) = some (m, env1) := by
  rw [ev_range, h]
  simp only [hr]
  rfl
/-- range(b) -/
theorem it_range {cl : Cl} {env env1 : Env} {e : E} {b : Nat} {k : Bool} (h : ev cl e env = some ((.int b, k), env1)) (hb : b ≤ 16777216) : itR (ev cl (.range (.cons e .nil)) env) = some ((List.range b).map fun (k : Nat) => .int (k : Int), env1) := by
  have e1 : evs cl (.cons e .nil) env = some ([(.int b, k)], env1) := by rw [evs_cons, h]; simp only [evs_nil]
  exact it_rangeX e1 (rangeV1 hb)
theorem rangeV2 {a b : Int} (ha : -1000000000 ≤ a) (ha2 : a ≤ 1000000000) (hb : -1000000000 ≤ b) (hb2 : b ≤ 1000000000) (hl : b - a ≤ 16777216) : rangeV [.int a, .int b] = some ((List.range (b - a).toNat).map fun (k : Nat) => .int (a + k)) := by
  have h1 : ok62 a = true := by unfold ok62; rw [decide_eq_true (by omega), decide_eq_true (by omega)]; rfl
  have h3 : ok62 b = true := by unfold ok62; rw [decide_eq_true (by omega), decide_eq_true (by omega)]; rfl
  have h4 : okLen (b - a).toNat = true := by unfold okLen; exact decide_eq_true (by omega)
  have h5 : (ok62 a && ok62 b && okLen (b - a).toNat) = true := by rw [h1, h3, h4]; rfl
  have h6 : rangeL 0 (b - a).toNat a 1 = (List.range (b - a).toNat).map fun (k : Nat) => .int (a + k) := by
    rw [rangeL_map, ← List.range_eq_range']
    exact List.map_congr_left fun k _ => by rw [Int.one_mul]
  rw [← h6]
  unfold rangeV
  simp only [h5, if_true]
/-- range(a, b) -/
theorem it_range2 {cl : Cl} {env env1 env2 : Env} {e e2 : E} {a b : Int} {k k' : Bool} (h : ev cl e env = some ((.int a, k), env1)) (h2 : ev cl e2 env1 = some ((.int b, k'), env2)) (ha : -1000000000 ≤ a) (ha2 : a ≤ 1000000000) (hb : -1000000000 ≤ b) (hb2 : b ≤ 1000000000) (hl : b - a ≤ 16777216) :
    itR (ev cl (.range (.cons e (.cons e2 .nil))) env) = some ((List.range (b - a).toNat).map fun (k : Nat) => .int (a + k), env2) := by
  have e1 : evs cl (.cons e (.cons e2 .nil)) env = some ([(.int a, k), (.int b, k')], env2) := by rw [evs_cons, h]; simp only [evs_cons, h2, evs_nil]
  exact it_rangeX e1 (rangeV2 ha ha2 hb hb2 hl)
/-- the number below b that times a leaves 1 by b -/
theorem q_common (h47 : F 47 = some p_law_common) {c : Val} {cs : List Int} (hc : Sq c cs) (ok : ∀ x ∈ cs, x.natAbs ≤ 200) : clN F (n + 1) 47 false [c] = some ((.int (gcdL cs), false), .none) := by
  obtain ⟨env', he, o2, o3, o4, o5, rfl, _⟩ := for_inv (cl := clN F n) (t := .name 2) (b := b_law_common_2) Val.int (fun (f : Nat) c => Nat.gcd f c.natAbs)
    (fun f env => ∃ o2 o3 o4 o5, env = [some (c, .sh), some (.int f, .sh), o2, o3, o4, o5] ∧ nl o2 = true ∧ nl o3 = true ∧ nl o4 = true ∧ nl o5 = true) cs 0 [some (c, .sh), some (.int 0, .sh), none, none, none, none] ⟨none, none, none, none, rfl, by simp, by simp, by simp, by simp⟩
    (fun f x env hm ⟨o2, o3, o4, o5, e, g2, g3, g4, g5⟩ => by
      subst e
      obtain ⟨p5, q5, hl⟩ := common_laps (clN F n) (some (c, .sh)) (some (.int f, .sh)) (some (.int x, .sh)) ((List.range 200).map fun (k : Nat) => Val.int (k : Int)) f x.natAbs o5 (by simpa using ok x hm) g5
      have e1 : ex (clN F n) (.par [3, 4] (.cons (.var 1) (.cons (.bcall .abs (.cons (.var 2) .nil)) .nil))) [some (c, .sh), some (.int f, .sh), some (.int x, .sh), o3, o4, o5] = some (.nx, [some (c, .sh), some (.int f, .sh), some (.int x, .sh), some (.int f, .sh), some (.int x.natAbs, .sh), o5]) :=
        (ex_parS (env2 := [some (c, .sh), some (.int f, .sh), some (.int x, .sh), o3, o4, o5]) rfl (ev_abs rfl) (by simpa using g3) (by simpa using g4)).trans rfl
      refine ⟨_, bind_name (by simpa using g2), _, .inl (ex_seq' e1 (ex_seq' (ex_for' (it_range (b := 200) ev_const (by omega)) hl) (ex_asgS rfl rfl))), _, _, _, _, rfl, by simp, by simp, by simp, q5⟩)
  exact cl_ret h47 rfl (ex_seq' (ex_asg' rfl rfl) (ex_seq' (ex_for' (it_seq rfl hc) he) rfl))
/-- the number below b that times a leaves 1 by b -/
theorem q_contrary (h177 : F 177 = some p_law_contrary) {a b : Nat} (hb : 0 < b) (hb2 : b ≤ 1000) (ha2 : a ≤ 1000) (hex : ∃ k, k < b ∧ a * k % b = 1 % b) : ∃ k : Nat, k < b ∧ a * k % b = 1 % b ∧ clN F (n + 1) 177 false [.int a, .int b] = some ((.int k, false), .none) := by
  have hcomp : ev (clN F n) (.comp (.var 2) (.name 2) (.range (.cons (.var 1) .nil)) (.cmp .eq (.bin .mod (.bin .mul (.var 0) (.var 2)) (.var 1)) (.bin .mod (.const (.int 1)) (.var 1)))) [some (.int a, .sh), some (.int b, .sh), none] =
      some ((.lst (((List.range b).filter fun k => decide (a * k % b = 1 % b)).map fun (k : Nat) => .int (k : Int)), true), [some (.int a, .sh), some (.int b, .sh), none]) := by
    refine ev_compS (fun (k : Nat) => .int (k : Int)) _ _ (it_range rfl (by omega)) rfl fun k hk => ⟨_, [some (.int a, .sh), some (.int b, .sh), some (.int k, .sh)], rfl, ?_, rfl, fun _ => ⟨_, _, rfl, rfl⟩⟩
    have hm : okMul (a : Int) (k : Int) = true := okMul_l (by simp; omega)
    refine boolR_as (ev_eqI (ev_modE (by omega) (ev_mul hm rfl rfl) rfl) (ev_modE (by omega) rfl rfl)) (decide_eq_decide.mpr ?_)
    have e1 : ((a : Int) * (k : Int)) % (b : Int) = ((a * k % b : Nat) : Int) := by simp
    have e2 : (1 : Int) % (b : Int) = ((1 % b : Nat) : Int) := by simp
    rw [e1, e2]; omega
  cases e : (List.range b).filter fun k => decide (a * k % b = 1 % b) with
  | nil =>
    obtain ⟨k, h1, h2⟩ := hex
    have : k ∈ (List.range b).filter fun k => decide (a * k % b = 1 % b) := by simp [h1, h2]
    rw [e] at this; cases this
  | cons k r =>
    have hk : k ∈ (List.range b).filter fun k => decide (a * k % b = 1 % b) := by rw [e]; simp
    simp at hk
    rw [e] at hcomp
    refine ⟨k, hk.1, hk.2, cl_ret (env' := [some (.int a, .sh), some (.int b, .sh), none]) h177 rfl (ex_ret' rfl ?_)⟩
    show ev (clN F n) (.idx _ (.const (.int 0))) [some (.int a, .sh), some (.int b, .sh), none] = _
    rw [ev_idx, hcomp]
    simp only [ev_const, idxV]
    rw [show atI (List.map (fun (k : Nat) => Val.int (k : Int)) (k :: r)) 0 = some (.int k) from atI_nat (k := 0) rfl]
    rfl
end
/-! ### loops and places -/
def lenc (l : Str × Int) : Val := .tup [.str l.1, .int l.2]
def lv (loops : List (Str × Int)) : Val := .tup (loops.map lenc)
def pv (o : List Int) (k : Int) : Val := .tup [.tup (intz o), .int k]
def pr (q : Int × Int) : Val := .tup [.int q.1, .int q.2]
def rows1 (o : List Int) (loops : List (Str × Int)) : List (Int × Int) := (o.zip loops).map fun q => (q.1, q.2.2)
def rows2 (o t : List Int) (loops : List (Str × Int)) : List (Int × Int) := rows1 o loops ++ (t.zip loops).map fun q => (-q.1, q.2.2)
theorem zip2_loops : ∀ (o : List Int) (loops : List (Str × Int)), zip2 (intz o) (loops.map lenc) = (o.zip loops).map fun q => .tup [.int q.1, lenc q.2]
  | [], l => by cases l <;> rfl
  | _ :: _, [] => rfl
  | a :: o, b :: l => by
    show Val.tup [.int a, lenc b] :: zip2 (intz o) (l.map lenc) = _
    rw [zip2_loops o l]; rfl
section
variable {F : Nat → Option Fn} {n : Nat} {loops : List (Str × Int)} {o t : List Int} {k l : Int}
theorem it_place {cl : Cl} {env : Env} {i : Nat} (h1 : eget env i = some (pv o k, .sh)) (h0 : eget env 0 = some (lv loops, .sh)) : itR (ev cl (.zip (.cons (.idxv i (.const (.int 0))) (.cons (.var 0) .nil))) env) = some ((o.zip loops).map fun q => .tup [.int q.1, lenc q.2], env) := by
  have e1 : ev cl (.idxv i (.const (.int 0))) env = some ((.tup (intz o), false), env) := by
    simp only [ev_idxv, has, h1, Option.isSome_some, if_true, ev_const, pv, idxV]
    rw [show atI [Val.tup (intz o), Val.int k] 0 = some (.tup (intz o)) from atI_nat (k := 0) rfl]
    rfl
  have e0 : ev cl (.var 0) env = some ((lv loops, false), env) := readV_sh h0 ▸ ev_var
  simp only [ev_zip, evs_cons, e1, e0, evs_nil, vals_cons, vals_nil, zipV, seqOf, lv, zip2_loops]
  rfl
theorem q_all_rows (h57 : F 57 = some p_all_rows) (hl : loops.length ≤ 1000) : clN F (n + 1) 57 false [lv loops, pv o k, pv t l] = some ((.lst ((rows2 o t loops).map pr), true), .none) := by
  have c1 : ev (clN F n) (.comp (.tup (.cons (.var 4) (.cons (.var 6) .nil))) (.tup (.cons (.name 4) (.cons (.tup (.cons (.name 5) (.cons (.name 6) .nil))) .nil))) (.zip (.cons (.idxv 1 (.const (.int 0))) (.cons (.var 0) .nil))) (.const (.bool true))) [some (lv loops, .sh), some (pv o k, .sh), some (pv t l, .sh), none, none, none, none] =
      some ((.lst ((o.zip loops).map fun q => pr (q.1, q.2.2)), true), [some (lv loops, .sh), some (pv o k, .sh), some (pv t l, .sh), none, none, none, none]) :=
    ev_compT (fun q : Int × (Str × Int) => .tup [.int q.1, lenc q.2]) _ (it_place rfl rfl) rfl (fun q hq => ⟨_, rfl, _, _, rfl, rfl⟩) (fun env1 a h => by cases h; rfl)
  have c2 : ev (clN F n) (.comp (.tup (.cons (.neg (.var 4)) (.cons (.var 6) .nil))) (.tup (.cons (.name 4) (.cons (.tup (.cons (.name 5) (.cons (.name 6) .nil))) .nil))) (.zip (.cons (.idxv 2 (.const (.int 0))) (.cons (.var 0) .nil))) (.const (.bool true))) [some (lv loops, .sh), some (pv o k, .sh), some (pv t l, .sh), some (.lst ((o.zip loops).map fun q => pr (q.1, q.2.2)), .sh), none, none, none] =
      some ((.lst ((t.zip loops).map fun q => pr (-q.1, q.2.2)), true), [some (lv loops, .sh), some (pv o k, .sh), some (pv t l, .sh), some (.lst ((o.zip loops).map fun q => pr (q.1, q.2.2)), .sh), none, none, none]) :=
    ev_compT (fun q : Int × (Str × Int) => .tup [.int q.1, lenc q.2]) _ (it_place rfl rfl) rfl (fun q hq => ⟨_, rfl, _, _, rfl, rfl⟩) (fun env1 a h => by cases h; rfl)
  have e2 : (rows2 o t loops).map pr = ((o.zip loops).map fun q => pr (q.1, q.2.2)) ++ (t.zip loops).map fun q => pr (-q.1, q.2.2) := by
    unfold rows2 rows1
    rw [List.map_append, List.map_map, List.map_map]; rfl
  have s1 : ex (clN F n) (.asg 3 (.comp (.tup (.cons (.var 4) (.cons (.var 6) .nil))) (.tup (.cons (.name 4) (.cons (.tup (.cons (.name 5) (.cons (.name 6) .nil))) .nil))) (.zip (.cons (.idxv 1 (.const (.int 0))) (.cons (.var 0) .nil))) (.const (.bool true)))) [some (lv loops, .sh), some (pv o k, .sh), some (pv t l, .sh), none, none, none, none] = some (.nx, [some (lv loops, .sh), some (pv o k, .sh), some (pv t l, .sh), some (.lst ((o.zip loops).map fun q => pr (q.1, q.2.2)), .ow), none, none, none]) := (ex_asgO c1 rfl).trans rfl
  refine cl_ret (env' := [some (lv loops, .sh), some (pv o k, .sh), some (pv t l, .sh), some (.lst ((o.zip loops).map fun q => pr (q.1, q.2.2)), .sh), none, none, none]) h57 rfl (ex_seq' s1 (ex_ret' rfl ?_))
  rw [e2]
  refine ev_addL (k := false) rfl c2 ?_
  simp
  omega
def coefs (r : List (Int × Int)) : List Int := (r.filter fun q => decide (q.1 ≠ 0)).map (·.1)
def bnds (r : List (Int × Int)) : List Int := (r.filter fun q => decide (q.1 ≠ 0)).map (·.2)
theorem q_equation_of (h57 : F 57 = some p_all_rows) (h58 : F 58 = some p_equation_of) (hl : loops.length ≤ 1000) : clN F (n + 2) 58 false [lv loops, pv o k, pv t l] = some ((.tup [.tup (intz (coefs (rows2 o t loops))), .tup (intz (bnds (rows2 o t loops))), .int (l - k)], false), .none) := by
  generalize hR : rows2 o t loops = R
  have hrows := q_all_rows (n := n) (o := o) (t := t) (k := k) (l := l) h57 hl
  rw [hR] at hrows
  have c1 : ev (clN F (n + 1)) (.comp (.tup (.cons (.var 4) (.cons (.var 5) .nil))) (.tup (.cons (.name 4) (.cons (.name 5) .nil))) (.call 57 (.cons (.var 0) (.cons (.var 1) (.cons (.var 2) .nil)))) (.cmp .ne (.var 4) (.const (.int 0)))) [some (lv loops, .sh), some (pv o k, .sh), some (pv t l, .sh), none, none, none] =
      some ((.lst ((R.filter fun q => decide (q.1 ≠ 0)).map pr), true), [some (lv loops, .sh), some (pv o k, .sh), some (pv t l, .sh), none, none, none]) := by
    refine ev_compS pr _ _ ?_ rfl fun q hq => ⟨_, [some (lv loops, .sh), some (pv o k, .sh), some (pv t l, .sh), none, some (.int q.1, .sh), some (.int q.2, .sh)], rfl, ?_, rfl, fun _ => ⟨_, _, rfl, rfl⟩⟩
    · rw [ev_call3 rfl rfl rfl hrows]; rfl
    · refine boolR_of (ev_cmpG rfl rfl ?_)
      simp only [cmpv, dat8, dat, Bool.and_self, if_true, veq]
      by_cases h : q.1 = 0 <;> simp [h]
  generalize hS : (R.filter fun q => decide (q.1 ≠ 0)) = S at c1
  have s1 : ex (clN F (n + 1)) (.asg 3 (.comp (.tup (.cons (.var 4) (.cons (.var 5) .nil))) (.tup (.cons (.name 4) (.cons (.name 5) .nil))) (.call 57 (.cons (.var 0) (.cons (.var 1) (.cons (.var 2) .nil)))) (.cmp .ne (.var 4) (.const (.int 0))))) [some (lv loops, .sh), some (pv o k, .sh), some (pv t l, .sh), none, none, none] = some (.nx, [some (lv loops, .sh), some (pv o k, .sh), some (pv t l, .sh), some (.lst (S.map pr), .ow), none, none]) := (ex_asgO c1 rfl).trans rfl
  have c2 : ev (clN F (n + 1)) (.tuple (.comp (.var 4) (.tup (.cons (.name 4) (.cons (.name 5) .nil))) (.var 3) (.const (.bool true)))) [some (lv loops, .sh), some (pv o k, .sh), some (pv t l, .sh), some (.lst (S.map pr), .ow), none, none] = some ((.tup (intz (coefs R)), false), [some (lv loops, .sh), some (pv o k, .sh), some (pv t l, .sh), some (.lst (S.map pr), .sh), none, none]) := by
    have := ev_compT (cl := clN F (n + 1)) (e := .var 4) (t := .tup (.cons (.name 4) (.cons (.name 5) .nil))) (it := .var 3) (env := [some (lv loops, .sh), some (pv o k, .sh), some (pv t l, .sh), some (.lst (S.map pr), .ow), none, none]) (env0 := [some (lv loops, .sh), some (pv o k, .sh), some (pv t l, .sh), some (.lst (S.map pr), .sh), none, none]) (l := S) pr (fun q => .int q.1) rfl rfl (fun q hq => ⟨_, rfl, _, _, rfl, rfl⟩) (fun env1 a h => by cases h; rfl)
    rw [ev_tuple rfl, this, liR_of rfl]
    simp only [coefs, hS, intz, List.map_map]
    rfl
  have c3 : ev (clN F (n + 1)) (.tuple (.comp (.var 5) (.tup (.cons (.name 4) (.cons (.name 5) .nil))) (.var 3) (.const (.bool true)))) [some (lv loops, .sh), some (pv o k, .sh), some (pv t l, .sh), some (.lst (S.map pr), .sh), none, none] = some ((.tup (intz (bnds R)), false), [some (lv loops, .sh), some (pv o k, .sh), some (pv t l, .sh), some (.lst (S.map pr), .sh), none, none]) := by
    have := ev_compT (cl := clN F (n + 1)) (e := .var 5) (t := .tup (.cons (.name 4) (.cons (.name 5) .nil))) (it := .var 3) (env := [some (lv loops, .sh), some (pv o k, .sh), some (pv t l, .sh), some (.lst (S.map pr), .sh), none, none]) (env0 := [some (lv loops, .sh), some (pv o k, .sh), some (pv t l, .sh), some (.lst (S.map pr), .sh), none, none]) (l := S) pr (fun q => .int q.2) rfl rfl (fun q hq => ⟨_, rfl, _, _, rfl, rfl⟩) (fun env1 a h => by cases h; rfl)
    rw [ev_tuple rfl, this, liR_of rfl]
    simp only [bnds, hS, intz, List.map_map]
    rfl
  have c4 : ev (clN F (n + 1)) (.bin .sub (.idxv 2 (.const (.int 1))) (.idxv 1 (.const (.int 1)))) [some (lv loops, .sh), some (pv o k, .sh), some (pv t l, .sh), some (.lst (S.map pr), .sh), none, none] = some ((.int (l - k), false), [some (lv loops, .sh), some (pv o k, .sh), some (pv t l, .sh), some (.lst (S.map pr), .sh), none, none]) := ev_sub rfl rfl
  refine cl_ret (env' := [some (lv loops, .sh), some (pv o k, .sh), some (pv t l, .sh), some (.lst (S.map pr), .sh), none, none]) h58 rfl (ex_seq' s1 (ex_ret' rfl ?_))
  show ev (clN F (n + 1)) (.tup (.cons _ (.cons _ (.cons _ .nil)))) _ = _
  rw [ev_tup, evs_cons, c2]
  simp only [evs_cons, c3, c4, evs_nil, vals_cons, vals_nil]
  rfl
theorem asg_eq {cl : Cl} {env : Env} {a b c : Val} {x : E} (h : ev cl x (some (lv loops, .sh) :: some (pv o k, .sh) :: some (pv t l, .sh) :: none :: none :: none :: env) = some ((.tup [a, b, c], false), some (lv loops, .sh) :: some (pv o k, .sh) :: some (pv t l, .sh) :: none :: none :: none :: env)) :
    ex cl (.asgT (.tup (.cons (.name 3) (.cons (.name 4) (.cons (.name 5) .nil)))) x) (some (lv loops, .sh) :: some (pv o k, .sh) :: some (pv t l, .sh) :: none :: none :: none :: env) = some (.nx, some (lv loops, .sh) :: some (pv o k, .sh) :: some (pv t l, .sh) :: some (a, .sh) :: some (b, .sh) :: some (c, .sh) :: env) := by
  rw [ex_asgT, h]; rfl
theorem q_touch (h57 : F 57 = some p_all_rows) (h58 : F 58 = some p_equation_of) (h59 : F 59 = some p_touch) (hl : loops.length ≤ 1000) {b : Bool} (hs : clN F (n + 2) 7 false [.tup (intz (coefs (rows2 o t loops))), .tup (intz (bnds (rows2 o t loops))), .int (l - k)] = some ((.bool b, false), .none)) :
    clN F (n + 3) 59 false [lv loops, pv o k, pv t l] = some ((.bool b, false), .none) :=
  cl_ret h59 rfl (ex_seq' (asg_eq (ev_call3 rfl rfl rfl (q_equation_of h57 h58 hl))) (ex_ret' rfl (ev_call3 rfl rfl rfl hs)))
def freeP (r : List (Int × Int)) (x : Int) : Int := r.foldl (fun f q => f * (if q.1 ≠ 0 then 1 else q.2 + 1)) x
theorem q_how_many_touchings (h57 : F 57 = some p_all_rows) (h58 : F 58 = some p_equation_of) (h61 : F 61 = some p_how_many_touchings) (hl : loops.length ≤ 1000) {x : Int} (hb : ∀ q ∈ rows2 o t loops, 0 ≤ q.2 ∧ q.2 < 1000000) (hs : clN F (n + 2) 10 false [.tup (intz (coefs (rows2 o t loops))), .tup (intz (bnds (rows2 o t loops))), .int (l - k)] = some ((.int x, false), .none)) :
    clN F (n + 3) 61 false [lv loops, pv o k, pv t l] = some ((.int (freeP (rows2 o t loops) x), false), .none) := by
  generalize hR : rows2 o t loops = R at hs hb
  have hrows := q_all_rows (n := n + 1) (o := o) (t := t) (k := k) (l := l) h57 hl
  have heq := q_equation_of (n := n) (o := o) (t := t) (k := k) (l := l) h57 h58 hl
  rw [hR] at hrows heq
  have main : ∀ (r : List (Int × Int)) (x : Int) (o7 o8 : Slot), (∀ q ∈ r, q ∈ R) → nl o7 = true → nl o8 = true → ∃ p7 p8, forS (clN F (n + 2)) (.tup (.cons (.name 7) (.cons (.name 8) .nil))) b_how_many_touchings_1 (r.map pr) [some (lv loops, .sh), some (pv o k, .sh), some (pv t l, .sh), some (.tup (intz (coefs R)), .sh), some (.tup (intz (bnds R)), .sh), some (.int (l - k), .sh), some (.int x, .sh), o7, o8] =
      some (.nx, [some (lv loops, .sh), some (pv o k, .sh), some (pv t l, .sh), some (.tup (intz (coefs R)), .sh), some (.tup (intz (bnds R)), .sh), some (.int (l - k), .sh), some (.int (freeP r x), .sh), p7, p8]) := by
    intro r
    induction r with
    | nil => intro x o7 o8 _ _ _; exact ⟨o7, o8, rfl⟩
    | cons q r ih =>
      intro x o7 o8 hm h7 h8
      obtain ⟨p7, p8, hf⟩ := ih (x * (if q.1 ≠ 0 then 1 else q.2 + 1)) (some (.int q.1, .sh)) (some (.int q.2, .sh)) (fun z hz => hm z (List.mem_cons_of_mem _ hz)) (by simp) (by simp)
      refine ⟨p7, p8, forS_nx (env1 := [some (lv loops, .sh), some (pv o k, .sh), some (pv t l, .sh), some (.tup (intz (coefs R)), .sh), some (.tup (intz (bnds R)), .sh), some (.int (l - k), .sh), some (.int x, .sh), some (.int q.1, .sh), some (.int q.2, .sh)]) (by simp [pr, bind_name, h7, h8]) ?_ hf⟩
      have hq := hb q (hm q (List.mem_cons_self ..))
      have hi : ev (clN F (n + 2)) (.ite (.cmp .ne (.var 7) (.const (.int 0))) (.const (.int 1)) (.bin .add (.var 8) (.const (.int 1)))) [some (lv loops, .sh), some (pv o k, .sh), some (pv t l, .sh), some (.tup (intz (coefs R)), .sh), some (.tup (intz (bnds R)), .sh), some (.int (l - k), .sh), some (.int x, .sh), some (.int q.1, .sh), some (.int q.2, .sh)] =
          some ((.int (if q.1 ≠ 0 then 1 else q.2 + 1), false), [some (lv loops, .sh), some (pv o k, .sh), some (pv t l, .sh), some (.tup (intz (coefs R)), .sh), some (.tup (intz (bnds R)), .sh), some (.int (l - k), .sh), some (.int x, .sh), some (.int q.1, .sh), some (.int q.2, .sh)]) := by
        refine ev_ite' (p := decide (q.1 ≠ 0)) (boolR_of (ev_cmpG rfl rfl ?_)) (fun h => ?_) (fun h => ?_)
        · simp only [cmpv, dat8, dat, Bool.and_self, if_true, veq]
          by_cases h : q.1 = 0 <;> simp [h]
        · rw [if_pos (by simpa using h)]; rfl
        · rw [if_neg (by simpa using h)]; exact ev_add rfl rfl
      have hm2 : okMul x (if q.1 ≠ 0 then 1 else q.2 + 1) = true := okMul_r (by split <;> omega)
      exact (ex_asgS (ev_mul hm2 rfl hi) rfl).trans rfl
  obtain ⟨p7, p8, hf⟩ := main R x none none (fun _ z => z) (by simp) (by simp)
  have s6 : ex (clN F (n + 2)) (.asg 6 (.call 10 (.cons (.var 3) (.cons (.var 4) (.cons (.var 5) .nil))))) [some (lv loops, .sh), some (pv o k, .sh), some (pv t l, .sh), some (.tup (intz (coefs R)), .sh), some (.tup (intz (bnds R)), .sh), some (.int (l - k), .sh), none, none, none] = some (.nx, [some (lv loops, .sh), some (pv o k, .sh), some (pv t l, .sh), some (.tup (intz (coefs R)), .sh), some (.tup (intz (bnds R)), .sh), some (.int (l - k), .sh), some (.int x, .sh), none, none]) := (ex_asgS (ev_call3 rfl rfl rfl hs) rfl).trans rfl
  have itr : itR (ev (clN F (n + 2)) (.call 57 (.cons (.var 0) (.cons (.var 1) (.cons (.var 2) .nil)))) [some (lv loops, .sh), some (pv o k, .sh), some (pv t l, .sh), some (.tup (intz (coefs R)), .sh), some (.tup (intz (bnds R)), .sh), some (.int (l - k), .sh), some (.int x, .sh), none, none]) = some (R.map pr, [some (lv loops, .sh), some (pv o k, .sh), some (pv t l, .sh), some (.tup (intz (coefs R)), .sh), some (.tup (intz (bnds R)), .sh), some (.int (l - k), .sh), some (.int x, .sh), none, none]) := by
    rw [ev_call3 rfl rfl rfl hrows]; rfl
  exact cl_ret h61 rfl (ex_seq' (asg_eq (ev_call3 rfl rfl rfl heq)) (ex_seq' s6 (ex_seq' (ex_for' itr hf) rfl)))
end
end QS

end
section
set_option Elab.async false
set_option linter.all false
set_option maxRecDepth 100000
/-! the main laws' frame: cells, box, laps -/
namespace QS
open PySem (Str)
open Q
def p_law_box (c : Int) : Fn := ⟨2, 3, (.seq (.asg 2 (.ite (.cmp .lt (.var 1) (.lenv 0)) (.idxv 0 (.var 1)) (.const (.int 0))))
    (.ret (.lst (.cons (.bin .mul (.bcall .abs (.cons (.var 2) .nil)) (.bcall .int (.cons (.cmp .ge (.bcall .abs (.cons (.var 2) .nil)) (.bin .pow (.const (.int 10)) (.const (.int 18)))) .nil))) (.cons (.bin .add (.bin .add (.bin .mod (.bcall .int (.cons (.var 2) .nil)) (.const (.int 2305843009213693951))) (.bin .mul (.const (.int 39373)) (.var 1))) (.const (.int c))) (.cons (.const (.int 0)) .nil))))))⟩
def b_law (laps : Nat) : S := (.seq (.asg 3 (.call 42 (.cons (.var 1) (.cons (.var 2) .nil))))
    (.ite (.not (.bcall .all (.cons (.comp (.callio 49 3 .nil) (.name 4) (.range (.cons (.const (.int (laps : Int))) .nil)) (.const (.bool true))) .nil)))
    (.ret (.const (.bool false)))
    .skip))
def p_law (laps : Nat) (e : E) : Fn := ⟨1, 5, (.seq (.asg 1 (.call 44 (.cons (.var 0) (.cons (.const (.int 2)) .nil))))
    (.seq (.for_ (.name 2) (.range (.cons (.lenv 1) .nil)) (b_law laps))
    (.ret e)))⟩
section
variable {F : Nat → Option Fn} {n : Nat}
theorem cells_loop (cl : Cl) (s : Val) (m : Nat) (hm : 0 < m) : ∀ (l : List Int) (k : Nat) (c : List Int) (o3 o4 o5 : Slot), k + l.length ≤ 1000 → (l ≠ [] → c.length = m) → nl o3 = true → nl o4 = true → nl o5 = true →
    ∃ c' p3 p4 p5, c'.length = c.length ∧ forS cl (.tup (.cons (.name 3) (.cons (.name 4) .nil))) b_law_cells_1 (enumL k (intz l)) [some (s, .sh), some (.int m, .sh), some (.lst (intz c), .ow), o3, o4, o5] = some (.nx, [some (s, .sh), some (.int m, .sh), some (.lst (intz c'), .ow), p3, p4, p5]) := by
  intro l
  induction l with
  | nil => intro k c o3 o4 o5 _ _ _ _ _; exact ⟨c, o3, o4, o5, rfl, rfl⟩
  | cons x l ih =>
    intro k c o3 o4 o5 hk hc h3 h4 h5
    have hcm := hc (by simp)
    have hkm : k % m < c.length := by rw [hcm]; exact Nat.mod_lt _ hm
    have hg : c[k % m]? = some c[k % m] := List.getElem?_eq_getElem hkm
    obtain ⟨c', p3, p4, p5, hl, hf⟩ := ih (k + 1) (c.set (k % m) (c[k % m] + x * (k + 2))) (some (.int k, .sh)) (some (.int x, .sh)) (some (.int (k % m : Nat), .sh)) (by simp at hk; omega) (fun _ => by simpa using hcm) (by simp) (by simp) (by simp)
    refine ⟨c', p3, p4, p5, by simpa using hl, forS_nx (env1 := [some (s, .sh), some (.int m, .sh), some (.lst (intz c), .ow), some (.int k, .sh), some (.int x, .sh), o5]) (by simp [bind_name, h3, h4]) ?_ hf⟩
    have e1 : ex cl (.asg 5 (.bin .mod (.bcall .int (.cons (.var 3) .nil)) (.var 1))) [some (s, .sh), some (.int m, .sh), some (.lst (intz c), .ow), some (.int k, .sh), some (.int x, .sh), o5] = some (.nx, [some (s, .sh), some (.int m, .sh), some (.lst (intz c), .ow), some (.int k, .sh), some (.int x, .sh), some (.int (k % m : Nat), .sh)]) :=
      (ex_asgS (env1 := [some (s, .sh), some (.int m, .sh), some (.lst (intz c), .ow), some (.int k, .sh), some (.int x, .sh), o5]) (ev_eqv (y := ((k % m : Nat) : Int)) (by simp) (ev_modE (by omega) (ev_int rfl) rfl)) (by simpa using h5)).trans rfl
    have e2 : ev cl (.bin .add (.idxv 2 (.var 5)) (.bin .mul (.var 4) (.bin .add (.var 3) (.const (.int 2))))) [some (s, .sh), some (.int m, .sh), some (.lst (intz c), .ow), some (.int k, .sh), some (.int x, .sh), some (.int (k % m : Nat), .sh)] = some ((.int (c[k % m] + x * (k + 2)), false), [some (s, .sh), some (.int m, .sh), some (.lst (intz c), .ow), some (.int k, .sh), some (.int x, .sh), some (.int (k % m : Nat), .sh)]) :=
      ev_add (ev_idxL rfl rfl rfl (ints_get hg)) (ev_mul (okMul_r (by simp at hk; omega)) rfl (ev_add rfl rfl))
    refine ex_seq' e1 ((ex_setiL (j := k % m) (x := 0) (y := 0) e2 rfl rfl rfl (by simp) (by simpa [intz] using hkm)).trans ?_)
    rw [ints_set]; rfl
theorem q_cells (h44 : F 44 = some p_law_cells) (ns : List Int) (hl : ns.length ≤ 63) {m : Nat} (hm : 0 < m) (hm2 : m ≤ 20) : ∃ cells : List Int, cells.length ≤ m ∧ clN F (n + 1) 44 false [.scr (intz ns), .int m] = some ((.lst (intz cells), true), .none) := by
  have hsl : ev (clN F n) (.slice (.var 0) .nil (.var 1)) [some (.scr (intz ns), .sh), some (.int m, .sh), none, none, none, none] = some ((.lst (intz (ns.take m)), true), [some (.scr (intz ns), .sh), some (.int m, .sh), none, none, none, none]) := by
    have hc : cutL (intz ns) none (some (m : Int)) = intz (ns.take m) := by
      unfold cutL sIx
      have : ¬ (m : Int) < 0 := by omega
      simp [this, intz, List.take_eq_take_iff]
    simp [bnd_int, readV_sh, sliceV, hc]
  have hls : ev (clN F n) (.list (.slice (.var 0) .nil (.var 1))) [some (.scr (intz ns), .sh), some (.int m, .sh), none, none, none, none] = some ((.lst (intz (ns.take m)), true), [some (.scr (intz ns), .sh), some (.int m, .sh), none, none, none, none]) := by
    rw [ev_list rfl, hsl]; rfl
  obtain ⟨c0, hc0, hc1, hc2⟩ : ∃ c0 : List Int, ev (clN F n) (.orV (.list (.slice (.var 0) .nil (.var 1))) (.lst (.cons (.const (.int 0)) .nil))) [some (.scr (intz ns), .sh), some (.int m, .sh), none, none, none, none] = some ((.lst (intz c0), true), [some (.scr (intz ns), .sh), some (.int m, .sh), none, none, none, none]) ∧ c0.length ≤ m ∧ (ns.drop m ≠ [] → c0.length = m) := by
    cases e : ns.take m with
    | nil =>
      refine ⟨[0], ?_, by simp; omega, fun h => ?_⟩
      · rw [ev_orV, hls, e]; rfl
      · have : ns = [] := by
          have := congrArg List.length e
          simp at this
          rcases this with z | z
          · omega
          · exact z
        rw [this] at h; simp at h
    | cons x r =>
      refine ⟨x :: r, ?_, ?_, fun h => ?_⟩
      · rw [ev_orV, hls, e]; rfl
      · rw [← e]; simp; omega
      · rw [← e, List.length_take]
        have := List.length_pos_iff.mpr h
        simp at this; omega
  have hen : itR (ev (clN F n) (.enum (.slice (.var 0) (.var 1) (.const (.int 63)))) [some (.scr (intz ns), .sh), some (.int m, .sh), some (.lst (intz c0), .ow), none, none, none]) = some (enumL 0 (intz (ns.drop m)), [some (.scr (intz ns), .sh), some (.int m, .sh), some (.lst (intz c0), .ow), none, none, none]) := by
    have hc : cutL (intz ns) (some (m : Int)) (some 63) = intz (ns.drop m) := by
      unfold cutL sIx
      have : ¬ (m : Int) < 0 := by omega
      have h63 : ¬ (63 : Int) < 0 := by omega
      simp only [this, h63, if_false]
      have hle : (intz ns).length = ns.length := by simp [intz]
      rw [hle]
      have e1 : min (63 : Int).toNat ns.length = ns.length := by
        have : (63 : Int).toNat = 63 := rfl
        omega
      rw [e1, Int.toNat_natCast]
      have e2 : List.drop (min m ns.length) (intz ns) = intz (ns.drop m) := by
        unfold intz
        rw [List.map_drop]
        by_cases h : m ≤ ns.length
        · rw [Nat.min_eq_left h]
        · rw [Nat.min_eq_right (by omega), List.drop_eq_nil_of_le (by simp), List.drop_eq_nil_of_le (by simp; omega)]
      rw [e2]
      exact List.take_of_length_le (by simp [intz]; omega)
    simp [bnd_int, readV_sh, sliceV, hc]
  have s1 : ex (clN F n) (.asg 2 (.orV (.list (.slice (.var 0) .nil (.var 1))) (.lst (.cons (.const (.int 0)) .nil)))) [some (.scr (intz ns), .sh), some (.int m, .sh), none, none, none, none] = some (.nx, [some (.scr (intz ns), .sh), some (.int m, .sh), some (.lst (intz c0), .ow), none, none, none]) := (ex_asgO hc0 rfl).trans rfl
  obtain ⟨c', p3, p4, p5, hl', hf⟩ := cells_loop (clN F n) (.scr (intz ns)) m hm (ns.drop m) 0 c0 none none none (by simp; omega) hc2 (by simp) (by simp) (by simp)
  exact ⟨c', by omega, cl_ret h44 rfl (ex_seq' s1 (ex_seq' (ex_for' hen hf) rfl))⟩
theorem q_box {c : Int} (h42 : F 42 = some (p_law_box c)) {cells : List Int} {k : Nat} (hk : k < cells.length) : ∃ v, Tn 0 v ∧ clN F (n + 1) 42 false [.lst (intz cells), .int k] = some ((v, true), .none) := by
  have hg : cells[k]? = some cells[k] := List.getElem?_eq_getElem hk
  generalize cells[k] = x at hg
  have e1 : ev (clN F n) (.ite (.cmp .lt (.var 1) (.lenv 0)) (.idxv 0 (.var 1)) (.const (.int 0))) [some (.lst (intz cells), .sh), some (.int k, .sh), none] = some ((.int x, false), [some (.lst (intz cells), .sh), some (.int k, .sh), none]) := by
    have hlen : ev (clN F n) (.lenv 0) [some (.lst (intz cells), .sh), some (.int k, .sh), none] = some ((.int (cells.length : Int), false), [some (.lst (intz cells), .sh), some (.int k, .sh), none]) := by simp [bLen, iR, intz]
    exact ev_ite' (p := true) (boolR_as (ev_cmpI rfl hlen rfl) (by simpa using hk)) (fun _ => ev_idxL rfl rfl rfl (ints_get hg)) fun h => by cases h
  have s1 : ex (clN F n) (.asg 2 (.ite (.cmp .lt (.var 1) (.lenv 0)) (.idxv 0 (.var 1)) (.const (.int 0)))) [some (.lst (intz cells), .sh), some (.int k, .sh), none] = some (.nx, [some (.lst (intz cells), .sh), some (.int k, .sh), some (.int x, .sh)]) := (ex_asgS e1 rfl).trans rfl
  have e2 : ev (clN F n) (.bcall .int (.cons (.cmp .ge (.bcall .abs (.cons (.var 2) .nil)) (.bin .pow (.const (.int 10)) (.const (.int 18)))) .nil)) [some (.lst (intz cells), .sh), some (.int k, .sh), some (.int x, .sh)] = some ((.int (if decide ((10 : Int) ^ 18 ≤ x.natAbs) then 1 else 0), false), [some (.lst (intz cells), .sh), some (.int k, .sh), some (.int x, .sh)]) := by
    have hp : ev (clN F n) (.bin .pow (.const (.int 10)) (.const (.int 18))) [some (.lst (intz cells), .sh), some (.int k, .sh), some (.int x, .sh)] = some ((.int ((10 : Int) ^ 18), false), [some (.lst (intz cells), .sh), some (.int k, .sh), some (.int x, .sh)]) := by
      simp only [ev_bin, ev_const, bin, binI]
      rw [if_pos (by decide)]; rfl
    have hc : ev (clN F n) (.cmp .ge (.bcall .abs (.cons (.var 2) .nil)) (.bin .pow (.const (.int 10)) (.const (.int 18)))) [some (.lst (intz cells), .sh), some (.int k, .sh), some (.int x, .sh)] = some ((.bool (decide ((10 : Int) ^ 18 ≤ x.natAbs)), false), [some (.lst (intz cells), .sh), some (.int k, .sh), some (.int x, .sh)]) := ev_cmpI (ev_abs rfl) hp rfl
    simp only [ev_bcall, evs_cons, hc, evs_nil, vals_cons, vals_nil, bcallV, bInt, iR, mk_some]
  have e3 : ev (clN F n) (.bin .mul (.bcall .abs (.cons (.var 2) .nil)) (.bcall .int (.cons (.cmp .ge (.bcall .abs (.cons (.var 2) .nil)) (.bin .pow (.const (.int 10)) (.const (.int 18)))) .nil))) [some (.lst (intz cells), .sh), some (.int k, .sh), some (.int x, .sh)] = some ((.int (x.natAbs * (if decide ((10 : Int) ^ 18 ≤ x.natAbs) then 1 else 0)), false), [some (.lst (intz cells), .sh), some (.int k, .sh), some (.int x, .sh)]) := ev_mul (okMul_r (by split <;> decide)) (ev_abs rfl) e2
  have e4 : ev (clN F n) (.bin .add (.bin .add (.bin .mod (.bcall .int (.cons (.var 2) .nil)) (.const (.int 2305843009213693951))) (.bin .mul (.const (.int 39373)) (.var 1))) (.const (.int c))) [some (.lst (intz cells), .sh), some (.int k, .sh), some (.int x, .sh)] = some ((.int (x % 2305843009213693951 + 39373 * k + c), false), [some (.lst (intz cells), .sh), some (.int k, .sh), some (.int x, .sh)]) := ev_add (ev_add (ev_modE (by omega) (ev_int rfl) rfl) (ev_mul (okMul_l (by omega)) rfl rfl)) rfl
  refine ⟨_, ⟨x.natAbs * (if decide ((10 : Int) ^ 18 ≤ x.natAbs) then 1 else 0), x % 2305843009213693951 + 39373 * k + c, 0, rfl, by omega, by omega⟩, cl_ret (env' := [some (.lst (intz cells), .sh), some (.int k, .sh), some (.int x, .sh)]) h42 rfl (ex_seq' s1 (ex_ret' rfl ?_))⟩
  rw [ev_lst, evs_cons, e3]
  simp only [evs_cons, e4, evs_nil, ev_const, vals_cons, vals_nil]
  rfl
/-- one lap holds -/
def RightOk (F : Nat → Option Fn) (n : Nat) : Prop := ∀ v k, Tn k v → k ≤ 1000000 → ∃ v', clN F n 49 true [v] = some ((.bool true, false), v') ∧ Tn (k + 100) v'
theorem laps_loop (cl : Cl) (hR : ∀ v k, Tn k v → k ≤ 1000000 → ∃ v', cl 49 true [v] = some ((.bool true, false), v') ∧ Tn (k + 100) v') (u0 u1 u2 : Slot) : ∀ (l : List Val) (k : Nat) (v : Val) (o4 : Slot) (acc : List Val), Tn k v → k + 100 * l.length ≤ 1000000 →
    ∃ v' p4, Tn (k + 100 * l.length) v' ∧ compLoop [4] (.name 4) (fun env => boolR (ev cl (.const (.bool true)) env)) (fun env => ev cl (.callio 49 3 .nil) env) l [u0, u1, u2, some (v, .ow), o4] acc = some (acc ++ l.map (fun _ => .bool true), [u0, u1, u2, some (v', .ow), p4]) := by
  intro l
  induction l with
  | nil => intro k v o4 acc hv hk; exact ⟨v, o4, by simpa using hv, by simp [compLoop]⟩
  | cons x l ih =>
    intro k v o4 acc hv hk
    simp only [List.length_cons] at hk
    obtain ⟨v1, h1, hv1⟩ := hR v k hv (by omega)
    obtain ⟨v', p4, hv', hf⟩ := ih (k + 100) v1 (some (x, .sh)) (acc ++ [.bool true]) hv1 (by omega)
    refine ⟨v', p4, by simp only [List.length_cons]; rw [Nat.mul_add, Nat.mul_one, ← Nat.add_assoc, Nat.add_right_comm]; exact hv', ?_⟩
    have hc : ev cl (.callio 49 3 .nil) [u0, u1, u2, some (v, .ow), some (x, .sh)] = some ((.bool true, false), [u0, u1, u2, some (v1, .ow), some (x, .sh)]) := by
      simp [has, h1]
    rw [compLoop]
    have hb : bindT (.name 4) x (clearE [4] [u0, u1, u2, some (v, .ow), o4]) = some [u0, u1, u2, some (v, .ow), some (x, .sh)] := by simp [clearE, bind_name]
    rw [hb]
    have hc1 : boolR (ev cl (.const (.bool true)) [u0, u1, u2, some (v, .ow), some (x, .sh)]) = some (true, [u0, u1, u2, some (v, .ow), some (x, .sh)]) := by simp
    simp only [hc1, hc]
    exact hf.trans (by simp)
theorem q_law {c : Int} {laps : Nat} {e : E} (h42 : F 42 = some (p_law_box c)) (h44 : F 44 = some p_law_cells) (h51 : F 51 = some (p_law laps e)) (hlaps : laps ≤ 1000) (hR : RightOk F (n + 1)) (hnv : nv e = true)
    (he : ∀ env, env.length = 5 → ∃ env', ev (clN F (n + 1)) e env = some ((.bool true, false), env')) (ns : List Int) (hl : ns.length ≤ 63) : clN F (n + 2) 51 false [.scr (intz ns)] = some ((.bool true, false), .none) := by
  obtain ⟨cells, hc, hcells⟩ := q_cells (n := n) (m := 2) h44 ns hl (by omega) (by omega)
  have s1 : ex (clN F (n + 1)) (.asg 1 (.call 44 (.cons (.var 0) (.cons (.const (.int 2)) .nil)))) [some (.scr (intz ns), .sh), none, none, none, none] = some (.nx, [some (.scr (intz ns), .sh), some (.lst (intz cells), .ow), none, none, none]) := (ex_asgO (env1 := [some (.scr (intz ns), .sh), none, none, none, none]) (ev_call2 rfl rfl hcells) rfl).trans rfl
  have hit : itR (ev (clN F (n + 1)) (.range (.cons (.lenv 1) .nil)) [some (.scr (intz ns), .sh), some (.lst (intz cells), .ow), none, none, none]) = some ((List.range cells.length).map fun (k : Nat) => .int (k : Int), [some (.scr (intz ns), .sh), some (.lst (intz cells), .ow), none, none, none]) := by
    refine it_range (k := false) ?_ (by omega)
    simp [bLen, iR, intz]
  have main : ∀ (l : List Nat) (f1 : Fl) (o2 o3 : Slot), f1 ≠ .ln → (∀ k ∈ l, k < cells.length) → nl o2 = true → nl o3 = true → ∃ env', env'.length = 5 ∧ forS (clN F (n + 1)) (.name 2) (b_law laps) (l.map fun (k : Nat) => .int (k : Int)) [some (.scr (intz ns), .sh), some (.lst (intz cells), f1), o2, o3, none] = some (.nx, env') := by
    intro l
    induction l with
    | nil => intro f1 o2 o3 _ _ _ _; exact ⟨_, rfl, rfl⟩
    | cons k l ih =>
      intro f1 o2 o3 hf1 hk h2 h3
      obtain ⟨v, hv, hbox⟩ := q_box (n := n) h42 (hk k (List.mem_cons_self ..))
      have b1 : ex (clN F (n + 1)) (.asg 3 (.call 42 (.cons (.var 1) (.cons (.var 2) .nil)))) [some (.scr (intz ns), .sh), some (.lst (intz cells), f1), some (.int k, .sh), o3, none] = some (.nx, [some (.scr (intz ns), .sh), some (.lst (intz cells), .sh), some (.int k, .sh), some (v, .ow), none]) := by
        have hv1 : ev (clN F (n + 1)) (.var 1) [some (.scr (intz ns), .sh), some (.lst (intz cells), f1), some (.int k, .sh), o3, none] = some ((.lst (intz cells), false), [some (.scr (intz ns), .sh), some (.lst (intz cells), .sh), some (.int k, .sh), o3, none]) := by
          rw [ev_var, readV_any (v := .lst (intz cells)) (k := f1) rfl hf1]; rfl
        exact (ex_asgO (env1 := [some (.scr (intz ns), .sh), some (.lst (intz cells), .sh), some (.int k, .sh), o3, none]) (ev_call2 hv1 rfl hbox) (by simpa using h3)).trans rfl
      obtain ⟨v', p4, hv', hcl⟩ := laps_loop (clN F (n + 1)) hR (some (.scr (intz ns), .sh)) (some (.lst (intz cells), .sh)) (some (.int k, .sh)) ((List.range laps).map fun (k : Nat) => .int (k : Int)) 0 v none [] hv (by simp; omega)
      have hrg : itR (ev (clN F (n + 1)) (.range (.cons (.const (.int (laps : Int))) .nil)) [some (.scr (intz ns), .sh), some (.lst (intz cells), .sh), some (.int k, .sh), some (v, .ow), none]) = some ((List.range laps).map fun (k : Nat) => .int (k : Int), [some (.scr (intz ns), .sh), some (.lst (intz cells), .sh), some (.int k, .sh), some (v, .ow), none]) :=
        it_range (k := false) ev_const (by omega)
      have hcomp : ev (clN F (n + 1)) (.comp (.callio 49 3 .nil) (.name 4) (.range (.cons (.const (.int (laps : Int))) .nil)) (.const (.bool true))) [some (.scr (intz ns), .sh), some (.lst (intz cells), .sh), some (.int k, .sh), some (v, .ow), none] = some ((.lst (((List.range laps).map fun (k : Nat) => Val.int (k : Int)).map fun _ => .bool true), true), [some (.scr (intz ns), .sh), some (.lst (intz cells), .sh), some (.int k, .sh), some (v', .ow), none]) := by
        rw [ev, hrg]
        have hno : noOwn (slotsT (.name 4)) [some (.scr (intz ns), .sh), some (.lst (intz cells), .sh), some (.int k, .sh), some (v, .ow), none] = true := rfl
        simp only [hno, if_true]
        rw [show slotsT (.name 4) = [4] from rfl, hcl]
        rfl
      have hall : boolR (ev (clN F (n + 1)) (.not (.bcall .all (.cons (.comp (.callio 49 3 .nil) (.name 4) (.range (.cons (.const (.int (laps : Int))) .nil)) (.const (.bool true))) .nil))) [some (.scr (intz ns), .sh), some (.lst (intz cells), .sh), some (.int k, .sh), some (v, .ow), none]) = some (false, [some (.scr (intz ns), .sh), some (.lst (intz cells), .sh), some (.int k, .sh), some (v', .ow), none]) := by
        have e1 : ev (clN F (n + 1)) (.bcall .all (.cons (.comp (.callio 49 3 .nil) (.name 4) (.range (.cons (.const (.int (laps : Int))) .nil)) (.const (.bool true))) .nil)) [some (.scr (intz ns), .sh), some (.lst (intz cells), .sh), some (.int k, .sh), some (v, .ow), none] = some ((.bool true, false), [some (.scr (intz ns), .sh), some (.lst (intz cells), .sh), some (.int k, .sh), some (v', .ow), none]) := by
          simp only [ev_bcall, evs_cons, hcomp, evs_nil, vals_cons, vals_nil, bcallV, oB, asBools_true, mk_some]
          have : (((List.range laps).map fun (k : Nat) => Val.int (k : Int)).map fun _ => true).all id = true := by simp
          rw [this]
        rw [ev_not, e1]; rfl
      obtain ⟨env', g1, g2⟩ := ih .sh (some (.int k, .sh)) (some (v', .ow)) (by simp) (fun k hk' => hk k (List.mem_cons_of_mem _ hk')) (by simp) (by simp)
      exact ⟨env', g1, forS_nx (bind_name (by simpa using h2)) (ex_seq' b1 (ex_if hall (fun h => by cases h) fun _ => ex_skip)) g2⟩
  obtain ⟨env', hl5, hf⟩ := main (List.range cells.length) .ow none none (by simp) (fun k hk => List.mem_range.mp hk) (by simp) (by simp)
  obtain ⟨env'', hev⟩ := he env' hl5
  exact cl_ret h51 rfl (ex_seq' s1 (ex_seq' (ex_for' hit hf) (ex_ret' hnv hev)))
end
end QS

end
section
set_option Elab.async false
set_option linter.all false
set_option maxRecDepth 100000
/-! two coefficients: how often they make a number -/
namespace QS
open PySem (Str)
open Q
/-! ### lists counted by another list -/
theorem len_bij {α β : Type} {l : List α} {m : List β} (f : α → β) (hl : l.Nodup) (hm : m.Nodup) (h1 : ∀ x ∈ l, f x ∈ m) (h2 : ∀ y ∈ m, ∃ x ∈ l, f x = y) (inj : ∀ x ∈ l, ∀ y ∈ l, f x = f y → x = y) : l.length = m.length := by
  have nd : (l.map f).Nodup := by
    refine List.Pairwise.map _ (R := fun x y => f x ≠ f y) (fun _ _ h => h) ?_
    exact (List.pairwise_iff_forall_sublist.mpr fun {a b} hs => by
      have hne := (List.pairwise_iff_forall_sublist.mp hl) hs
      intro e
      exact hne (inj a (hs.subset (by simp)) b (hs.subset (by simp)) e))
  have p : (l.map f).Perm m := (List.perm_ext_iff_of_nodup nd hm).mpr fun y => by
    rw [List.mem_map]
    exact ⟨fun ⟨x, hx, e⟩ => e ▸ h1 x hx, h2 y⟩
  rw [← p.length_eq, List.length_map]
theorem sum_ind (p : Nat → Bool) (l : List Nat) : (l.map fun k => if p k then 1 else 0).sum = (l.filter p).length := by
  induction l with
  | nil => rfl
  | cons k l ih =>
    rw [List.map_cons, List.sum_cons, ih, List.filter_cons]
    split <;> simp <;> omega
theorem sum_one {f : Nat → Nat} {k0 : Nat} {c : Nat} : ∀ (n : Nat), (∀ k, k ≠ k0 → f k = 0) → f k0 = c → ((List.range n).map f).sum = if k0 < n then c else 0 := by
  intro n
  induction n with
  | zero => intro _ _; simp
  | succ n ih =>
    intro h1 h2
    rw [List.range_succ, List.map_append, List.sum_append, ih h1 h2]
    simp only [List.map_cons, List.map_nil, List.sum_cons, List.sum_nil, Nat.add_zero]
    by_cases e : k0 = n
    · subst e; simp [h2]
    · rw [h1 n (fun z => e z.symm)]
      by_cases h : k0 < n
      · rw [if_pos h, if_pos (by omega)]; omega
      · rw [if_neg h, if_neg (by omega)]
/-- the first row of ways -/
theorem ways1 (a m : Nat) (ha : 0 < a) (z : Nat) (i : Nat) (hi : i < z + 1) : (dpL (1 :: List.replicate z 0) a m).getD i 0 = if a ∣ i ∧ i / a ≤ m then 1 else 0 := by
  rw [dpL_at _ _ _ (by simp; omega)]
  have hW : ∀ j, (1 :: List.replicate z 0 : List Nat).getD j 0 = if j = 0 then 1 else 0 := by
    intro j
    cases j with
    | zero => rfl
    | succ j => simp [List.getD_eq_getElem?_getD, List.getElem?_replicate]; split <;> rfl
  unfold dpv
  by_cases hd : a ∣ i
  · obtain ⟨k0, rfl⟩ := hd
    have s := sum_one (f := dpf (1 :: List.replicate z 0) a (a * k0)) (k0 := k0) (c := 1) (m + 1) (fun k hk => by
      unfold dpf
      split
      · rename_i h
        rw [hW, if_neg]
        have h1 : k ≤ k0 := Nat.le_of_mul_le_mul_left h ha
        have h2 : k < k0 := by omega
        have := Nat.mul_lt_mul_of_pos_left h2 ha
        omega
      · rfl) (by unfold dpf; rw [if_pos (Nat.le_refl _), hW]; simp)
    rw [s, Nat.mul_div_cancel_left _ ha]
    by_cases h : k0 ≤ m
    · rw [if_pos (by omega), if_pos ⟨Nat.dvd_mul_right _ _, h⟩]
    · rw [if_neg (by omega), if_neg (fun z => h z.2)]
  · rw [if_neg (fun z => hd z.1)]
    have : ∀ k, dpf (1 :: List.replicate z 0) a i k = 0 := by
      intro k
      unfold dpf
      split
      · rename_i h
        rw [hW, if_neg]
        intro e
        exact hd ⟨k, by omega⟩
      · rfl
    have := sum_one (f := dpf (1 :: List.replicate z 0) a i) (k0 := 0) (c := 0) (m + 1) (fun k _ => this k) (this 0)
    rw [this]; simp
/-- how the second counter runs -/
def js (a b m n N : Nat) : List Nat := (List.range (n + 1)).filter fun j => decide (b * j ≤ N ∧ a ∣ (N - b * j) ∧ (N - b * j) / a ≤ m)
theorem mem_js {a b m n N j : Nat} (ha : 0 < a) : j ∈ js a b m n N ↔ j ≤ n ∧ ∃ i, i ≤ m ∧ a * i + b * j = N := by
  unfold js
  simp only [List.mem_filter, List.mem_range, decide_eq_true_eq]
  constructor
  · rintro ⟨h1, h2, ⟨i, hi⟩, h4⟩
    rw [hi, Nat.mul_div_cancel_left _ ha] at h4
    exact ⟨by omega, i, h4, by omega⟩
  · rintro ⟨h1, i, h2, h3⟩
    have e : N - b * j = a * i := by omega
    exact ⟨by omega, by omega, by rw [e]; exact Nat.dvd_mul_right _ _, by rw [e, Nat.mul_div_cancel_left _ ha]; exact h2⟩
theorem gl2 {a b m n : Nat} (ha : 0 < a) (hb : 0 < b) : lsum [(a : Int), b] [(m : Int), n] = 0 ∧ gsum [(a : Int), b] [(m : Int), n] = ((a * m + b * n : Nat) : Int) := by
  have h1 : ¬ (a : Int) < 0 := by omega
  have h2 : ¬ (b : Int) < 0 := by omega
  have h3 : (0 : Int) < a := by omega
  have h4 : (0 : Int) < b := by omega
  constructor
  · simp [lsum, h1, h2]
  · simp [gsum, ha, hb]
theorem waysOf2 {a b m n N : Nat} (ha : 0 < a) (hb : 0 < b) : waysOf [(a : Int), b] [(m : Int), n] N = (js a b m n N).length := by
  obtain ⟨e1, e2⟩ := gl2 (m := m) (n := n) ha hb
  unfold waysOf
  rw [e1, e2]
  by_cases hN : N ≤ a * m + b * n
  · rw [if_pos ⟨by omega, by omega⟩]
    have e3 : (((a * m + b * n : Nat) : Int) - 0).toNat = a * m + b * n := by omega
    have e4 : ((N : Int) - 0).toNat = N := by omega
    rw [e3, e4]
    show (waysL (1 :: List.replicate (a * m + b * n) 0) [((a : Int), (m : Int)), ((b : Int), (n : Int))]).getD N 0 = _
    show (dpL (dpL (1 :: List.replicate (a * m + b * n) 0) (a : Int).natAbs (m : Int).toNat) (b : Int).natAbs (n : Int).toNat).getD N 0 = _
    simp only [Int.natAbs_natCast, Int.toNat_natCast]
    rw [dpL_at _ _ _ (by rw [dpL_len]; simp; omega)]
    unfold dpv js
    rw [← sum_ind]
    congr 1
    refine List.map_congr_left fun k hk => ?_
    unfold dpf
    by_cases h : b * k ≤ N
    · rw [if_pos h, ways1 a m ha _ _ (by omega)]
      simp [h]
    · rw [if_neg h]; simp [h]
  · rw [if_neg (by omega)]
    have : js a b m n N = [] := by
      rw [List.eq_nil_iff_forall_not_mem]
      intro j hj
      obtain ⟨h1, i, h2, h3⟩ := (mem_js ha).mp hj
      have := Nat.mul_le_mul_left a h2
      have := Nat.mul_le_mul_left b h1
      omega
    rw [this]; rfl
/-! ### the numbers of the law -/
structure Pp (a b N ia ib : Nat) : Prop where
  a0 : 0 < a
  b0 : 0 < b
  ca : a * ia % b = 1 % b
  cb : b * ib % a = 1 % a
section
variable {a b N ia ib : Nat} (P : Pp a b N ia ib)
include P
theorem Pp.sw : Pp b a N ib ia := ⟨P.b0, P.a0, P.cb, P.ca⟩
theorem Pp.modx : a * (N * ia % b) % b = N % b := by
  have h1 : a * (N * ia % b) % b = a * (N * ia) % b := by rw [Nat.mul_mod, Nat.mod_mod, ← Nat.mul_mod]
  have h2 : a * (N * ia) = N * (a * ia) := by rw [← Nat.mul_assoc, Nat.mul_comm a N, Nat.mul_assoc]
  rw [h1, h2, Nat.mul_mod, P.ca, ← Nat.mul_mod, Nat.mul_one]
/-- what a times i leaves by b tells i by b -/
theorem Pp.canc {i j : Nat} (h : a * i % b = a * j % b) : i % b = j % b := by
  have h1 : ∀ i, ia * (a * i) % b = i % b := fun i => by
    have : ia * (a * i) = (a * ia) * i := by rw [← Nat.mul_assoc, Nat.mul_comm ia a]
    rw [this, Nat.mul_mod, P.ca, ← Nat.mul_mod, Nat.one_mul]
  rw [← h1 i, ← h1 j, Nat.mul_mod, h, ← Nat.mul_mod]
/-- the first counters by the one -/
theorem Pp.sol {i j : Nat} (h : a * i + b * j = N) : i % b = N * ia % b := by
  have h1 : a * i % b = a * (N * ia % b) % b := by
    rw [P.modx, ← h, Nat.add_mul_mod_self_left]
  have := P.canc h1
  rw [this, Nat.mod_mod]
/-- the difference -/
theorem Pp.diff : ((a * b : Nat) : Int) ∣ (N : Int) - (a * (N * ia % b) : Nat) - (b * (N * ib % a) : Nat) := by
  have hx := P.modx
  have hy := P.sw.modx
  generalize N * ia % b = x at *
  generalize N * ib % a = y at *
  -- by b: N - a x; then by a
  have d1 : (b : Int) ∣ (N : Int) - (a * x : Nat) := by
    have h0 : (N : Int) % b = ((a * x : Nat) : Int) % b := by exact_mod_cast hx.symm
    exact Int.dvd_of_emod_eq_zero (Int.emod_eq_emod_iff_emod_sub_eq_zero.mp h0)
  obtain ⟨q, hq⟩ := d1
  -- b q ≡ b y by a
  have h2 : ((b : Int) * q) % a = ((b * y : Nat) : Int) % a := by
    have e : (b : Int) * q = (N : Int) - (a : Int) * x := by rw [← hq]; simp
    rw [e, Int.sub_mul_emod_self_left]
    exact_mod_cast hy.symm
  have h3 : q % a = (y : Int) % a := by
    have k1 : ∀ z : Int, ((ib : Int) * ((b : Int) * z)) % a = z % a := fun z => by
      have c1 : ((b : Int) * ib) % a = 1 % a := by exact_mod_cast P.cb
      have : (ib : Int) * ((b : Int) * z) = ((b : Int) * ib) * z := by rw [← Int.mul_assoc, Int.mul_comm (ib : Int) b]
      rw [this, Int.mul_emod, c1, ← Int.mul_emod, Int.one_mul]
    rw [← k1 q, ← k1 y, Int.mul_emod, h2, ← Int.mul_emod]
    simp
  obtain ⟨t, ht⟩ := Int.dvd_of_emod_eq_zero (Int.emod_eq_emod_iff_emod_sub_eq_zero.mp h3)
  refine ⟨t, ?_⟩
  have : q = y + a * t := by omega
  rw [hq, this]
  simp only [Int.natCast_mul, Int.mul_add]
  rw [← Int.mul_assoc, Int.mul_comm (b : Int) a]
  omega
omit P in
theorem mul3 (a b E t : Int) : b * (a * (E - t)) = a * b * E - a * (b * t) := by
  rw [← Int.mul_assoc, Int.mul_comm b a, Int.mul_sub, Int.mul_assoc a b t]
/-- all counters of the number -/
theorem Pp.sols {E : Int} (hE : (N : Int) - (a * (N * ia % b) : Nat) - (b * (N * ib % a) : Nat) = (a * b : Nat) * E) {i j : Nat} :
    a * i + b * j = N ↔ ∃ t : Nat, i = N * ia % b + b * t ∧ (t : Int) ≤ E ∧ (j : Int) = (N * ib % a : Nat) + a * (E - t) := by
  have hy : N * ib % a < a := Nat.mod_lt _ P.a0
  have hb0 := P.b0
  constructor
  · intro h
    have hs := P.sol h
    generalize N * ia % b = x at *
    generalize N * ib % a = y at *
    have hi : i = x + b * (i / b) := by have := Nat.mod_add_div i b; omega
    generalize i / b = t at *
    subst hi
    have hN : (N : Int) = (a : Int) * x + a * (b * t) + b * j := by
      rw [← h, Nat.mul_add]; simp
    have h1 : (b : Int) * (y + a * (E - t)) = b * j := by
      rw [Int.mul_add, mul3]
      simp only [Int.natCast_mul] at hE
      omega
    have h2 : (y : Int) + a * (E - t) = j := Int.eq_of_mul_eq_mul_left (by omega) h1
    refine ⟨t, rfl, ?_, h2.symm⟩
    apply Int.not_lt.mp
    intro hlt
    have : (a : Int) * (E - t) ≤ a * (-1) := Int.mul_le_mul_of_nonneg_left (by omega) (by omega)
    omega
  · rintro ⟨t, rfl, ht, hj⟩
    generalize N * ia % b = x at *
    generalize N * ib % a = y at *
    have : ((a * (x + b * t) + b * j : Nat) : Int) = N := by
      simp only [Int.natCast_add, Int.natCast_mul, Int.mul_add] at *
      rw [hj, Int.mul_add, mul3]
      omega
    exact_mod_cast this
/-- which t stand within -/
def valid (a b m n N x t : Nat) : Bool := decide (x + b * t ≤ m) && (decide (a * (x + b * t) ≤ N) && decide (N - a * (x + b * t) ≤ b * n))
theorem Pp.valid_iff {E : Int} (hE : (N : Int) - (a * (N * ia % b) : Nat) - (b * (N * ib % a) : Nat) = (a * b : Nat) * E) {m n t : Nat} :
    valid a b m n N (N * ia % b) t = true ↔ ∃ j, j ≤ n ∧ N * ia % b + b * t ≤ m ∧ a * (N * ia % b + b * t) + b * j = N ∧ (t : Int) ≤ E ∧ (j : Int) = (N * ib % a : Nat) + a * (E - t) := by
  unfold valid
  simp only [Bool.and_eq_true, decide_eq_true_eq]
  constructor
  · rintro ⟨h1, h2, h3⟩
    have hd : b ∣ N - a * (N * ia % b + b * t) := by
      have hx := P.modx
      rw [Nat.mul_add] at h2 ⊢
      have e : (a * (N * ia % b) + a * (b * t)) % b = N % b := by
        rw [show a * (b * t) = b * (a * t) by rw [← Nat.mul_assoc, Nat.mul_comm a b, Nat.mul_assoc], Nat.add_mul_mod_self_left, hx]
      exact Nat.dvd_of_mod_eq_zero (Nat.sub_mod_eq_zero_of_mod_eq e.symm)
    obtain ⟨j, hj⟩ := hd
    have hs : a * (N * ia % b + b * t) + b * j = N := by omega
    obtain ⟨t', e1, e2, e3⟩ := (P.sols hE).mp hs
    have : t' = t := by
      have := Nat.eq_of_mul_eq_mul_left P.b0 (show b * t = b * t' by omega)
      exact this.symm
    subst this
    refine ⟨j, Nat.le_of_mul_le_mul_left (by rw [← hj]; exact h3) P.b0, h1, hs, e2, e3⟩
  · rintro ⟨j, h1, h2, h3, h4, h5⟩
    have := Nat.mul_le_mul_left b h1
    exact ⟨h2, by omega, by omega⟩
theorem Pp.count {E : Int} (hE : (N : Int) - (a * (N * ia % b) : Nat) - (b * (N * ib % a) : Nat) = (a * b : Nat) * E) {m n T : Nat} (hT : ∀ t, valid a b m n N (N * ia % b) t = true → t < T) :
    (js a b m n N).length = ((List.range T).filter (valid a b m n N (N * ia % b))).length := by
  symm
  refine len_bij (fun t => (N - a * (N * ia % b + b * t)) / b) (List.Pairwise.filter _ List.nodup_range) (List.Pairwise.filter _ List.nodup_range) (fun t ht => ?_) (fun j hj => ?_) (fun t ht u hu e => ?_)
  · obtain ⟨j, h1, h2, h3, h4, h5⟩ := (P.valid_iff hE).mp (List.mem_filter.mp ht).2
    have : (N - a * (N * ia % b + b * t)) / b = j := by
      rw [show N - a * (N * ia % b + b * t) = b * j by omega, Nat.mul_div_cancel_left _ P.b0]
    rw [this]
    exact (mem_js P.a0).mpr ⟨h1, _, h2, h3⟩
  · obtain ⟨h1, i, h2, h3⟩ := (mem_js P.a0).mp hj
    obtain ⟨t, e1, e2, e3⟩ := (P.sols hE).mp h3
    subst e1
    have hv := (P.valid_iff (m := m) (n := n) (t := t) hE).mpr ⟨j, h1, h2, h3, e2, e3⟩
    refine ⟨t, List.mem_filter.mpr ⟨List.mem_range.mpr (hT t hv), hv⟩, ?_⟩
    rw [show N - a * (N * ia % b + b * t) = b * j by omega, Nat.mul_div_cancel_left _ P.b0]
  · obtain ⟨j, h1, h2, h3, h4, h5⟩ := (P.valid_iff hE).mp (List.mem_filter.mp ht).2
    obtain ⟨k, g1, g2, g3, g4, g5⟩ := (P.valid_iff hE).mp (List.mem_filter.mp hu).2
    have e1 : (N - a * (N * ia % b + b * t)) / b = j := by
      rw [show N - a * (N * ia % b + b * t) = b * j by omega, Nat.mul_div_cancel_left _ P.b0]
    have e2 : (N - a * (N * ia % b + b * u)) / b = k := by
      rw [show N - a * (N * ia % b + b * u) = b * k by omega, Nat.mul_div_cancel_left _ P.b0]
    have hjk : j = k := by rw [← e1, ← e2]; exact e
    have ha0 := P.a0
    have : (a : Int) * (E - t) = a * (E - u) := by omega
    have := Int.eq_of_mul_eq_mul_left (show (a : Int) ≠ 0 by omega) this
    omega
/-- with bounds that let all -/
theorem Pp.count_all {E : Int} (hE : (N : Int) - (a * (N * ia % b) : Nat) - (b * (N * ib % a) : Nat) = (a * b : Nat) * E) {m n : Nat} (hm : N / a ≤ m) (hn : N / b ≤ n) : (js a b m n N).length = (E + 1).toNat := by
  have hv : ∀ t : Nat, (t : Int) ≤ E → valid a b m n N (N * ia % b) t = true := fun t ht => by
    have hj : ∃ j : Nat, (j : Int) = (N * ib % a : Nat) + a * (E - t) := by
      have : 0 ≤ (a : Int) * (E - t) := Int.mul_nonneg (by omega) (by omega)
      exact ⟨((N * ib % a : Nat) + a * (E - t)).toNat, by omega⟩
    obtain ⟨j, hj⟩ := hj
    have hs := (P.sols hE (i := N * ia % b + b * t) (j := j)).mpr ⟨t, rfl, ht, hj⟩
    have hi : N * ia % b + b * t ≤ N / a := (Nat.le_div_iff_mul_le P.a0).mpr (by rw [Nat.mul_comm]; omega)
    have hjn : j ≤ N / b := (Nat.le_div_iff_mul_le P.b0).mpr (by rw [Nat.mul_comm]; omega)
    exact (P.valid_iff hE).mpr ⟨j, by omega, by omega, hs, ht, hj⟩
  rw [P.count hE (T := (E + 1).toNat) fun t ht => by
    obtain ⟨j, _, _, _, h, _⟩ := (P.valid_iff hE).mp ht
    omega]
  rw [List.filter_eq_self.mpr fun t ht => hv t (by have := List.mem_range.mp ht; omega), List.length_range]
/-- some counters at all -/
theorem Pp.any {E : Int} (hE : (N : Int) - (a * (N * ia % b) : Nat) - (b * (N * ib % a) : Nat) = (a * b : Nat) * E) : (∃ i j, a * i + b * j = N) ↔ 0 ≤ E := by
  constructor
  · rintro ⟨i, j, h⟩
    obtain ⟨t, _, h2, _⟩ := (P.sols hE).mp h
    omega
  · intro h
    have : 0 ≤ (a : Int) * E := Int.mul_nonneg (by omega) h
    refine ⟨N * ia % b + b * 0, ((N * ib % a : Nat) + a * E).toNat, (P.sols hE).mpr ⟨0, rfl, h, ?_⟩⟩
    rw [Int.toNat_of_nonneg (by omega)]
    rw [show E - ((0 : Nat) : Int) = E by omega]
end
/-! ### heaps of two -/
theorem heap2 {ss : List Int} {a b : Nat} (h : ∀ s, s ∈ ss ↔ s = (a : Int) ∨ s = (b : Int)) (x : Int) : HeapR ss x ↔ ∃ i j : Nat, ((a * i + b * j : Nat) : Int) = x := by
  constructor
  · intro H
    induction H with
    | zero => exact ⟨0, 0, by simp⟩
    | add _ hs ih =>
      obtain ⟨i, j, e⟩ := ih
      rcases (h _).mp hs with rfl | rfl
      · exact ⟨i + 1, j, by rw [← e, Nat.mul_add]; simp; omega⟩
      · exact ⟨i, j + 1, by rw [← e, Nat.mul_add]; simp; omega⟩
  · rintro ⟨i, j, rfl⟩
    have h1 := HeapR.mul ((h a).mpr (.inl rfl)) (HeapR.zero) i
    have h2 := HeapR.mul ((h b).mpr (.inr rfl)) h1 j
    have e : (0 : Int) + (a : Int) * (i : Int) + (b : Int) * (j : Int) = ((a * i + b * j : Nat) : Int) := by simp
    rw [e] at h2; exact h2
theorem ss2 {c d : Int} {a b : Nat} (hc : c.natAbs = a) (hd : d.natAbs = b) : ∀ s, s ∈ ssOf [c, d] ↔ s = (a : Int) ∨ s = (b : Int) := by
  intro s
  rw [mem_ssOf]
  simp only [List.mem_cons, List.not_mem_nil, or_false, exists_eq_or_imp, exists_eq_left, hc, hd]
  constructor
  · rintro (h | h) <;> simp [h]
  · rintro (h | h) <;> simp [h]
/-! ### marks of two -/
theorem last2 (c d m n : Int) (z : Nat) : (lastM 1 [(c, m), (d, n)]).testBit z = true ↔ ∃ i j : Nat, i ≤ m.toNat ∧ j ≤ n.toNat ∧ c.natAbs * i + d.natAbs * j = z := by
  show (fill (fill 1 c.natAbs m.toNat) d.natAbs n.toNat).testBit z = true ↔ _
  rw [fill_bit]
  constructor
  · rintro ⟨j, h1, h2, h3⟩
    obtain ⟨i, g1, g2, g3⟩ := (fill_bit _ _ _ _).mp h3
    rw [Nat.testBit_one_eq_true_iff_self_eq_zero] at g3
    exact ⟨i, j, g1, h1, by omega⟩
  · rintro ⟨i, j, h1, h2, h3⟩
    refine ⟨j, h2, by omega, (fill_bit _ _ _ _).mpr ⟨i, h1, by omega, ?_⟩⟩
    rw [Nat.testBit_one_eq_true_iff_self_eq_zero]; omega
end QS

end
section
set_option Elab.async false
set_option linter.all false
set_option maxRecDepth 100000
/-! law k88: one lap -/
namespace QS
open PySem (Str)
open Q
abbrev I (x : Int) : Slot := some (.int x, .sh)
theorem ev_take {cl : Cl} {e : E} {env rest : Env} {m r : Int} {v v' : Val} {k : Bool} (hh : has env 0 = true) (he : ev cl e env = some ((.int m, k), some (v, .ln) :: rest)) (h : cl 43 true [v, .int m] = some ((.int r, false), v')) : ev cl (.callio 43 0 (.cons e .nil)) env = some ((.int r, false), some (v', .ln) :: rest) := by
  simp only [ev_callio, hh, if_true, evs_cons, he, evs_nil, eget, vals_cons, vals_nil, h, eset]
theorem ev_ofio {cl : Cl} {e : E} {env rest : Env} {g x : Val} {v v' : Val} {k : Bool} (hh : has env 0 = true) (he : ev cl e env = some ((g, k), some (v, .ln) :: rest)) (h : cl 87 true [v, g] = some ((x, false), v')) : ev cl (.callio 87 0 (.cons e .nil)) env = some ((x, false), some (v', .ln) :: rest) := by
  simp only [ev_callio, hh, if_true, evs_cons, he, evs_nil, eget, vals_cons, vals_nil, h, eset]
theorem ev_max1 {cl : Cl} {env env1 env2 : Env} {a b : E} {x y : Int} {k k' : Bool} (ha : ev cl a env = some ((.int x, k), env1)) (hb : ev cl b env1 = some ((.int y, k'), env2)) : ev cl (.bcall .max (.cons (.lst (.cons a (.cons b .nil))) .nil)) env = some ((.int (if x < y then y else x), false), env2) := by
  simp only [ev_bcall, evs_cons, ev_lst, ha, hb, evs_nil, vals_cons, vals_nil]
  rfl
theorem ev_lst2 {cl : Cl} {env env1 env2 : Env} {a b : E} {x y : Val} {k k' : Bool} (ha : ev cl a env = some ((x, k), env1)) (hb : ev cl b env1 = some ((y, k'), env2)) : ev cl (.lst (.cons a (.cons b .nil))) env = some ((.lst [x, y], true), env2) := by
  simp only [ev_lst, evs_cons, ha, hb, evs_nil]; rfl
theorem ev_lst3 {cl : Cl} {env env1 env2 env3 : Env} {a b c : E} {x y z : Val} {k k' k'' : Bool} (ha : ev cl a env = some ((x, k), env1)) (hb : ev cl b env1 = some ((y, k'), env2)) (hc : ev cl c env2 = some ((z, k''), env3)) : ev cl (.lst (.cons a (.cons b (.cons c .nil)))) env = some ((.lst [x, y, z], true), env3) := by
  simp only [ev_lst, evs_cons, ha, hb, hc, evs_nil]; rfl
theorem ev_lst4 {cl : Cl} {env env1 env2 env3 env4 : Env} {a b c d : E} {x y z u : Val} {k k' k'' k3 : Bool} (ha : ev cl a env = some ((x, k), env1)) (hb : ev cl b env1 = some ((y, k'), env2)) (hc : ev cl c env2 = some ((z, k''), env3)) (hd : ev cl d env3 = some ((u, k3), env4)) : ev cl (.lst (.cons a (.cons b (.cons c (.cons d .nil))))) env = some ((.lst [x, y, z, u], true), env4) := by
  simp only [ev_lst, evs_cons, ha, hb, hc, hd, evs_nil]; rfl
theorem ev_tup2 {cl : Cl} {env env1 env2 : Env} {a b : E} {x y : Val} {k k' : Bool} (ha : ev cl a env = some ((x, k), env1)) (hb : ev cl b env1 = some ((y, k'), env2)) : ev cl (.tup (.cons a (.cons b .nil))) env = some ((.tup [x, y], false), env2) := by
  simp only [ev_tup, evs_cons, ha, hb, evs_nil]; rfl
theorem gcd2 (a b : Nat) : gcdL [(a : Int), (b : Int)] = Nat.gcd a b := by simp [gcdL]
/-- inverses, by looking -/
theorem inv_tab : ((List.range 25).all fun a => (List.range 25).all fun b => a == 0 || b == 0 || Nat.gcd a b != 1 || (List.range b).any fun k => a * k % b == 1 % b) = true := by decide +kernel
theorem inv_ex {a b : Nat} (ha : 0 < a) (ha2 : a < 25) (hb : 0 < b) (hb2 : b < 25) (hg : Nat.gcd a b = 1) : ∃ k, k < b ∧ a * k % b = 1 % b := by
  have h := List.all_eq_true.mp (List.all_eq_true.mp inv_tab a (List.mem_range.mpr ha2)) b (List.mem_range.mpr hb2)
  simp only [Bool.or_eq_true, beq_iff_eq, bne_iff_ne, List.any_eq_true, List.mem_range, ne_eq] at h
  rcases h with ((h | h) | h) | h
  · omega
  · omega
  · exact absurd hg h
  · exact h
structure FP (F : Nat → Option Fn) : Prop where
  h1 : F 1 = some p_least_sum
  h2 : F 2 = some p_greatest_sum
  h3 : F 3 = some p_step
  h4 : F 4 = some p_divides
  h5 : F 5 = some p_marks_along
  h6 : F 6 = some p_is_marked
  h7 : F 7 = some p_is_sum
  h10 : F 10 = some p_how_many_counters
  h20 : F 20 = some p_check_counter
  h24 : F 24 = some p_sizes_of
  h25 : F 25 = some p_classes_by
  h26 : F 26 = some p_least_heaps
  h27 : F 27 = some p_is_above
  h39 : F 39 = some p_word_for
  h43 : F 43 = some p_law_take
  h46 : F 46 = some p_law_same
  h47 : F 47 = some p_law_common
  h57 : F 57 = some p_all_rows
  h58 : F 58 = some p_equation_of
  h59 : F 59 = some p_touch
  h61 : F 61 = some p_how_many_touchings
  h82 : F 82 = some p_why_never
  h83 : F 83 = some p_comes_at_all
  h87 : F 87 = some p_law_of
  h96 : F 96 = some p_is_heap
  h99 : F 99 = some p_least_in_class
  h110 : F 110 = some p_heap_counts
  h177 : F 177 = some p_law_contrary
/-! ### the defs at two coefficients -/
section
variable {F : Nat → Option Fn} {n : Nat} {a b N ia ib : Nat} {E : Int}
theorem hc2 {c d : Int} (hc : c ≠ 0 ∧ c.natAbs ≤ 200) (hd : d ≠ 0 ∧ d.natAbs ≤ 200) : Hc [c, d] := ⟨by simp, by simp, fun x hx => by rcases List.mem_cons.mp hx with rfl | hx; exact hc; simp at hx; subst hx; exact hd⟩
theorem k_many (G : FP F) (ha : 0 < a) (ha2 : a < 25) (hb : 0 < b) (hb2 : b < 25) {m k : Nat} (hm : m ≤ 2000) (hk : k ≤ 2000) {bv : Val} (hbv : Sq bv [(m : Int), (k : Int)]) : clN F (n + 2) 10 false [.tup [.int a, .int b], bv, .int N] = some ((.int (js a b m k N).length, false), .none) := by
  have := q_how_many_counters (n := n) (c := .tup [.int a, .int b]) (cs := [(a : Int), b]) (bs := [(m : Int), k]) (x := N) G.h1 G.h2 G.h10 (.inl rfl) hbv (fun x hx => by
    rcases List.mem_cons.mp hx with rfl | hx
    · unfold okc; omega
    · simp at hx; subst hx; unfold okc; omega) (fun x hx => by
    rcases List.mem_cons.mp hx with rfl | hx
    · unfold okc; omega
    · simp at hx; subst hx; unfold okc; omega) (by
    obtain ⟨e1, e2⟩ := gl2 (a := a) (b := b) (m := m) (n := k) ha hb
    rw [e1, e2]
    have h1 : a * m ≤ 25 * 2000 := Nat.mul_le_mul (by omega) hm
    have h2 : b * k ≤ 25 * 2000 := Nat.mul_le_mul (by omega) hk
    omega)
  rw [waysOf2 ha hb] at this
  exact this
theorem k_sum (G : FP F) {c d m k z : Int} (hc : c.natAbs < 25) (hd : d.natAbs < 25) (hm : 0 ≤ m ∧ m ≤ 2000) (hk : 0 ≤ k ∧ k ≤ 2000) :
    ∃ bo : Bool, clN F (n + 2) 7 false [.tup [.int c, .int d], .tup [.int m, .int k], .int z] = some ((.bool bo, false), .none) ∧ (bo = true ↔ ∃ i j : Nat, i ≤ m.toNat ∧ j ≤ k.toNat ∧ ((c.natAbs * i + d.natAbs * j : Nat) : Int) = z - lsum [c, d] [m, k]) := by
  have := q_is_sum (n := n) (c := .tup [.int c, .int d]) (b := .tup [.int m, .int k]) (cs := [c, d]) (bs := [m, k]) (x := z) G.h1 G.h5 G.h6 G.h7 (.inl rfl) (.inl rfl) (fun x hx => by
    rcases List.mem_cons.mp hx with rfl | hx
    · unfold okc; omega
    · simp at hx; subst hx; unfold okc; omega) (fun x hx => by
    rcases List.mem_cons.mp hx with rfl | hx
    · unfold okc; omega
    · simp at hx; subst hx; unfold okc; omega) (by
    simp [wid]
    have h1 : c.natAbs * m.toNat ≤ 25 * 2000 := Nat.mul_le_mul (by omega) (by omega)
    have h2 : d.natAbs * k.toNat ≤ 25 * 2000 := Nat.mul_le_mul (by omega) (by omega)
    omega) (by simp)
  refine ⟨_, this, ?_⟩
  rw [Bool.and_eq_true, decide_eq_true_eq]
  show _ ∧ (lastM 1 [(c, m), (d, k)]).testBit _ = true ↔ _
  rw [last2]
  constructor
  · rintro ⟨h0, i, j, h1, h2, h3⟩
    exact ⟨i, j, h1, h2, by omega⟩
  · rintro ⟨i, j, h1, h2, h3⟩
    exact ⟨by omega, i, j, h1, h2, by omega⟩
theorem nat_pair {c d : Nat} {x : Nat} : (∃ i j : Nat, ((c * i + d * j : Nat) : Int) = (x : Int)) ↔ ∃ i j : Nat, c * i + d * j = x :=
  ⟨fun ⟨i, j, h⟩ => ⟨i, j, by omega⟩, fun ⟨i, j, h⟩ => ⟨i, j, by omega⟩⟩
theorem k_heap (G : FP F) (ha : 0 < a) (ha2 : a < 25) (hb : 0 < b) (hb2 : b < 25) {x y : Bool} :
    ∃ bo : Bool, clN F (n + 3) 96 false [.tup [.int a, .int (0 - b)], .int N] = some ((.bool bo, false), .none) ∧ (bo = true ↔ ∃ i j, a * i + b * j = N) := by
  obtain ⟨bo, h1, h2⟩ := q_is_heap (n := n) (c := .tup [.int a, .int (0 - b)]) (cs := [(a : Int), 0 - b]) (x := N) G.h24 G.h25 G.h26 G.h27 G.h96 (.inl rfl) (hc2 (by omega) (by omega))
  refine ⟨bo, h1, h2.trans ?_⟩
  rw [heap2 (ss2 (c := (a : Int)) (d := 0 - (b : Int)) (a := a) (b := b) (by omega) (by omega)), nat_pair]
theorem k_comes (G : FP F) (ha : 0 < a) (ha2 : a < 25) (hb : 0 < b) (hb2 : b < 25) (hg : Nat.gcd a b = 1) :
    ∃ bo : Bool, clN F (n + 4) 83 false [.tup [.int a, .int b], .int N] = some ((.bool bo, false), .none) ∧ (bo = true ↔ ∃ i j, a * i + b * j = N) := by
  obtain ⟨w, bo, h1, ⟨_, hW⟩, h2⟩ := q_comes_at_all (n := n) (c := .tup [.int a, .int b]) (cs := [(a : Int), b]) (x := N) G.h3 G.h4 G.h24 G.h25 G.h26 G.h27 G.h39 G.h82 G.h83 (.inl rfl) (hc2 (by omega) (by omega))
  refine ⟨bo, h1, h2.trans ?_⟩
  rw [gcd2, hg] at hW
  obtain ⟨w1, w2⟩ := hW (by simp)
  by_cases h0 : N = 0
  · rw [w1 (.inl (by omega))]
    simp only [true_iff]
    exact ⟨0, 0, by omega⟩
  · obtain ⟨_, w3⟩ := w2 (by
      rintro (h | ⟨_, c, hc, h⟩)
      · omega
      · rcases List.mem_cons.mp hc with rfl | hc
        · omega
        · simp at hc; subst hc; omega)
    obtain ⟨w4, w5⟩ := w3 (by simp; omega)
    have hh := heap2 (ss2 (c := (a : Int)) (d := (b : Int)) (a := a) (b := b) (by omega) (by omega)) ((N : Int).natAbs : Int)
    rw [Int.natAbs_natCast, nat_pair] at hh
    rw [Int.natAbs_natCast] at w4 w5
    by_cases hex : ∃ i j, a * i + b * j = N
    · simp only [hex, iff_true]; exact w4 (hh.mpr hex)
    · rw [w5 fun z => hex (hh.mp z)]
      simp only [hex, iff_false]
      intro z; cases z
theorem k_counts (G : FP F) (ha : 0 < a) (ha2 : a < 25) (hb : 0 < b) (hb2 : b < 25) (hN : N < 100000) {env env1 : Env} {k : Bool} {e1 e2 : Q.E} (h1 : ev (clN F (n + 4)) e1 env = some ((.tup [.int b, .int a], k), env1)) (h2 : ev (clN F (n + 4)) e2 env1 = some ((.int N, false), env1)) :
    ∃ bo : Bool, ev (clN F (n + 4)) (.cmp .isN (.call 110 (.cons e1 (.cons e2 .nil))) (.const .none)) env = some ((.bool bo, false), env1) ∧ (bo = true ↔ ¬ ∃ i j, a * i + b * j = N) := by
  have hh := heap2 (ss2 (c := (b : Int)) (d := (a : Int)) (a := b) (b := a) (by omega) (by omega)) (N : Int)
  rw [nat_pair] at hh
  have sw : (∃ i j, b * i + a * j = N) ↔ ∃ i j, a * i + b * j = N := ⟨fun ⟨i, j, h⟩ => ⟨j, i, by omega⟩, fun ⟨i, j, h⟩ => ⟨j, i, by omega⟩⟩
  rw [sw] at hh
  rcases q_heap_counts (n := n) (c := .tup [.int b, .int a]) (cs := [(b : Int), a]) (x := N) G.h24 G.h25 G.h26 G.h27 G.h96 G.h110 (.inl rfl) (hc2 (by omega) (by omega)) (by omega) with ⟨g1, g2⟩ | ⟨g1, f, _, _, _, g2⟩
  · refine ⟨true, ?_, by simp only [true_iff]; exact fun z => g1 (hh.mpr z)⟩
    rw [ev_cmp, ev_call2 h1 h2 g2]; simp [cmpv]
  · refine ⟨false, ?_, by simp only [Bool.false_eq_true, false_iff]; exact fun z => z (hh.mp g1)⟩
    rw [ev_cmp, ev_call2 h1 h2 g2]; simp [cmpv]
theorem k_class (G : FP F) (P : Pp a b N ia ib) (ha2 : a < 25) (hb2 : b < 25) : clN F (n + 2) 99 false [.tup [.int a, .int b], .int 0, .int N] = some ((.int (b * (N * ib % a) : Nat), false), .none) := by
  have ha := P.a0
  have hb := P.b0
  obtain ⟨L, T, cf, h⟩ := q_least_in_class (n := n) (c := .tup [.int a, .int b]) (cs := [(a : Int), b]) (p := 0) (k := a) (x := N) G.h20 G.h24 G.h25 G.h99 (.inl rfl) (hc2 (by omega) (by omega)) rfl
  rw [Int.natAbs_natCast] at h cf
  have hh := heap2 (ss2 (c := (a : Int)) (d := (b : Int)) (a := a) (b := b) (by omega) (by omega))
  have hby : b * (N * ib % a) % a = N % a := P.sw.modx
  have hH : HeapR (ssOf [(a : Int), b]) ((b * (N * ib % a) : Nat) : Int) := (hh _).mpr ⟨0, N * ib % a, by simp⟩
  obtain ⟨v, hv1, hv2⟩ := cf.heap hH
  have e : ((b * (N * ib % a) : Nat) : Int) % (a : Int) = (N : Int) % a := by exact_mod_cast hby
  rw [e] at hv1
  obtain ⟨g1, g2, g3, g4⟩ := cf.least hv1
  obtain ⟨i, j, hij⟩ := (hh v).mp g1
  have hle : b * (N * ib % a) ≤ a * i + b * j := by
    have h3 : (a * i + b * j) % a = N % a := by
      have : (v : Int) % a = (N : Int) % a := g3
      rw [← hij] at this
      exact_mod_cast this
    have h4 : b * j % a = b * (N * ib % a) % a := by rw [hby, ← h3, Nat.mul_add_mod]
    have h5 := P.sw.canc h4
    have h6 : N * ib % a ≤ j := by
      have h7 : N * ib % a = j % a := by rw [h5, Nat.mod_mod]
      rw [h7]; exact Nat.mod_le _ _
    have := Nat.mul_le_mul_left b h6
    omega
  have hveq : v = ((b * (N * ib % a) : Nat) : Int) := by omega
  rw [hv1, hveq] at h
  exact h
end
end QS

end
section
set_option Elab.async false
set_option linter.all false
/-! Q: from the model's syntax to Q's. -/
namespace Q
open PySem
structure Ctx where
  N : List Str
  sc : Scope
  /-- the module's defs: number, whether the first argument is lent -/
  fn : Str → Option (Nat × Bool)
  /-- the module's constants -/
  cst : Str → Option Val
def ixOf (x : Str) : List Str → Nat → Option Nat
  | [], _ => none
  | y :: r, n => if x = y then some n else ixOf x r (n + 1)
def isVis (sc : Scope) (x : Str) : Bool := match sc.names.lookup x with
  | some .local => true
  | some .cell => true
  | some .free => true
  | _ => false
def isLoc (sc : Scope) (x : Str) : Bool := match sc.names.lookup x with
  | some .local => true
  | some .cell => true
  | _ => false
def okN (x : Str) : Bool := !(x == ("__debug__" : Str)) && !(x == ("__classdict__" : Str))
def isGl (sc : Scope) (x : Str) : Bool := okN x && match sc.names.lookup x with
  | some .globalImplicit => true
  | _ => false
/-- a name of the def's own -/
def slot? (c : Ctx) (x : Str) : Option Nat := if isVis c.sc x && okN x then ixOf x c.N 0 else none
/-- no *e among the arguments, not too many -/
def plainA : List Expr → Bool
  | [] => true
  | .Starred _ _ :: _ => false
  | _ :: r => plainA r
def isTupE : Expr → Bool
  | .Tuple _ _ _ => true
  | _ => false
/-- not super() -/
def baseOk : Expr → Bool
  | .Call (.Name _ _) [] [] _ => false
  | _ => true
def bltIs (c : Ctx) (x y : Str) : Bool := decide (x = y) && isGl c.sc x && (c.fn x).isNone && (c.cst x).isNone
def relS (scope sc : Scope) : Scope :=
  { scope with names := scope.names.map fun (n, k) => if (k == .free && sc.kind == .function && sc.names.lookup n == some .cell) then (n, .cell) else (n, k) }
def Ctx.blk (c : Ctx) (scope : Scope) : Ctx := { c with sc := relS scope c.sc }
/-- the names of a target -/
def namesT : Nat → Expr → List Str
  | _, .Name x _ => [x]
  | n + 1, .Tuple es _ _ => es.flatMap (namesT n)
  | _, _ => []
def blkOk (N : List Str) (sc scope : Scope) (own : List Str) : Bool :=
  decide (scope.kind = .function) && scope.names.all (fun y => decide (scope.names.lookup y.1 = some y.2)) &&
  scope.names.all (fun y => match y.2 with
    | .free => (match sc.names.lookup y.1 with | some .cell => true | some .free => true | _ => false)
    | .local => decide (y.1 ∈ own) || !decide (y.1 ∈ N)
    | .cell => decide (y.1 ∈ own) || !decide (y.1 ∈ N)
    | _ => true) &&
  own.all (fun x => match scope.names.lookup x with | some .local => true | some .cell => true | _ => false)
def cstV : Const → Option Val
  | .none => some .none
  | .bool b => some (.bool b)
  | .int i => some (.int i)
  | .str x => if strOk x then some (.str x) else none
  | _ => none
def opOf : Operator → Option Op
  | .Add => some .add
  | .Sub => some .sub
  | .Mult => some .mul
  | .FloorDiv => some .fdiv
  | .Mod => some .mod
  | .Pow => some .pow
  | .LShift => some .shl
  | .RShift => some .shr
  | .BitOr => some .bor
  | .BitAnd => some .band
  | _ => none
def cmOf : CmpOp → Option Cm
  | .Eq => some .eq
  | .NotEq => some .ne
  | .Lt => some .lt
  | .LtE => some .le
  | .Gt => some .gt
  | .GtE => some .ge
  | .In => some .in_
  | .NotIn => some .notin
  | _ => none
def isNone : Expr → Bool
  | .Constant .none _ _ => true
  | _ => false
def tyOf (c : Ctx) (x : Str) : Option Ty :=
  if bltIs c x "int" then some .int else if bltIs c x "bool" then some .bool else if bltIs c x "str" then some .str
  else if bltIs c x "list" then some .list else if bltIs c x "tuple" then some .tuple else none
def b1 (c : Ctx) (x : Str) : Option B :=
  if bltIs c x "len" then some .len else if bltIs c x "abs" then some .abs else if bltIs c x "sum" then some .sum
  else if bltIs c x "min" then some .min else if bltIs c x "max" then some .max else if bltIs c x "all" then some .all
  else if bltIs c x "any" then some .any else if bltIs c x "int" then some .int else if bltIs c x "sorted" then some .sorted
  else if bltIs c x "set" then some .set else if bltIs c x "dict" then some .dict else if bltIs c x "str" then some .str else none
def bn (c : Ctx) (x : Str) : Nat → Option B
  | 2 => if bltIs c x "min" then some .min2 else if bltIs c x "max" then some .max2 else none
  | 3 => if bltIs c x "max" then some .max3 else none
  | _ => none
/-- a list(..) in front of or -/
def isListCall (c : Ctx) : Expr → Bool
  | .Call (.Name x _) [_] [] _ => bltIs c x "list"
  | _ => false
def compT (c : Ctx) : Nat → Expr → Option T
  | _, .Name x _ => if isLoc c.sc x then (match ixOf x c.N 0 with | some i => some (.name i) | none => none) else none
  | n + 1, .Tuple es _ _ => (match compTs n es with | some t => some (.tup t) | none => none)
  | _, _ => none
where compTs : Nat → List Expr → Option T
  | _, [] => some .nil
  | n, e :: r => match compT c n e, compTs n r with
    | some h, some t => some (.cons h t)
    | _, _ => none
def callDef (c : Ctx) (cA : List Expr → Option E) (f : Nat) (io : Bool) (args : List Expr) : Option E :=
  if io then (match args with
    | .Name y _ :: r => match slot? c y, cA r with
      | some i, some a => some (.callio f i a)
      | _, _ => none
    | _ => none)
  else (match cA args with | some a => some (.call f a) | none => none)
def callP (c : Ctx) (cE : Expr → Option E) (x : Str) (a : Expr) : Option E := match b1 c x, cE a with
  | some b, some a => some (.bcall b (.cons a .nil))
  | _, _ => none
def callB1 (c : Ctx) (cE cL : Expr → Option E) (x : Str) (a : Expr) : Option E :=
  if bltIs c x "list" then (match cL a with | some a => some (.list a) | none => none)
  else if bltIs c x "tuple" then (match cL a with | some a => some (.tuple a) | none => none)
  else match a with
    | .Name y p => match bltIs c x "len", slot? c y with
      | true, some i => some (.lenv i)
      | _, _ => callP c cE x (.Name y p)
    | .Call (.Name y p) [z] [] p2 =>
      if bltIs c y "set" && bltIs c x "len" then (match cE z with | some z => some (.bcall .lenset (.cons z .nil)) | none => none)
      else if bltIs c y "set" && bltIs c x "sorted" then (match cE z with | some z => some (.bcall .sortedset (.cons z .nil)) | none => none)
      else callP c cE x (.Call (.Name y p) [z] [] p2)
    | a => callP c cE x a
def callB2 (c : Ctx) (cE : Expr → Option E) (x : Str) (a b : Expr) : Option E :=
  if bltIs c x "isinstance" then (match cE a, b with
    | some a, .Name y _ => (match tyOf c y with | some t => some (.isi a [t]) | none => none)
    | some a, .Tuple [.Name y _, .Name z _] _ _ => (match tyOf c y, tyOf c z with | some t, some u => some (.isi a [t, u]) | _, _ => none)
    | _, _ => none)
  else match bn c x 2, cE a, cE b with
    | some k, some a, some b => some (.bcall k (.cons a (.cons b .nil)))
    | _, _, _ => none
def callB3 (c : Ctx) (cE : Expr → Option E) (x : Str) (a b d : Expr) : Option E := match bn c x 3, cE a, cE b, cE d with
  | some k, some a, some b, some d => some (.bcall k (.cons a (.cons b (.cons d .nil))))
  | _, _, _, _ => none
def callKw (c : Ctx) (cE : Expr → Option E) (x k : Str) (a d : Expr) : Option E :=
  if k = "default" then
    if bltIs c x "min" then (match cE a, cE d with | some a, some d => some (.bcall .minD (.cons a (.cons d .nil))) | _, _ => none)
    else if bltIs c x "max" then (match cE a, cE d with | some a, some d => some (.bcall .maxD (.cons a (.cons d .nil))) | _, _ => none)
    else none
  else none
/-- a method of a slot's thing -/
def methV (cE : Expr → Option E) (i : Nat) (m : Str) (args : List Expr) : Option E :=
  if m = "get" then (match args with
    | [a] => (match cE a with | some a => some (.getv i (.cons a .nil)) | none => none)
    | [a, b] => (match cE a, cE b with | some a, some b => some (.getv i (.cons a (.cons b .nil))) | _, _ => none)
    | _ => none)
  else if m = "pop" then (match args with
    | [] => some (.popv i .nil)
    | [a] => (match cE a with | some a => some (.popv i (.cons a .nil)) | none => none)
    | _ => none)
  else if m = "bit_length" then (match args with | [] => some (.mcall .bitlen (.var i) .nil) | _ => none)
  else if m = "count" then (match args with | [a] => (match cE a with | some a => some (.mcall .count (.var i) (.cons a .nil)) | none => none) | _ => none)
  else if m = "index" then (match args with | [a] => (match cE a with | some a => some (.mcall .index (.var i) (.cons a .nil)) | none => none) | _ => none)
  else none
/-- a method of a value -/
def methR (cE : Expr → Option E) (r : E) (m : Str) (args : List Expr) : Option E :=
  if m = "get" then (match args with
    | [a] => (match cE a with | some a => some (.mcall .get r (.cons a .nil)) | none => none)
    | [a, b] => (match cE a, cE b with | some a, some b => some (.mcall .get r (.cons a (.cons b .nil))) | _, _ => none)
    | _ => none)
  else if m = "count" then (match args with | [a] => (match cE a with | some a => some (.mcall .count r (.cons a .nil)) | none => none) | _ => none)
  else if m = "index" then (match args with | [a] => (match cE a with | some a => some (.mcall .index r (.cons a .nil)) | none => none) | _ => none)
  else none
def lcOf (c : Ctx) (cIt : Bool → Expr → Option E) (cIf : Ctx → List Expr → Option E) (cE : Ctx → Expr → Option E) (elt : Expr) (gs : List Comprehension) (scope : Scope) : Option E := match gs with
  | [⟨tg, it, ifs, 0⟩] =>
    if blkOk c.N c.sc scope (namesT 8 tg) then
      match cIt (isTupE tg) it, compT (c.blk scope) 8 tg, cIf (c.blk scope) ifs, cE (c.blk scope) elt with
      | some it, some t, some k, some e => some (.comp e t it k)
      | _, _, _, _ => none
    else none
  | _ => none
mutual
def compE (c : Ctx) : Nat → Expr → Option E
  | 0, _ => none
  | n + 1, e => match e with
    | .Name x _ => match slot? c x with
      | some i => some (.var i)
      | none => if isGl c.sc x then (match c.cst x with | some v => some (.const v) | none => none) else none
    | .Constant k _ _ => (match cstV k with | some v => some (.const v) | none => none)
    | .BinOp a o b _ => match opOf o, compE c n a, compE c n b with
      | some o, some a, some b => some (.bin o a b)
      | _, _, _ => none
    | .UnaryOp .USub a _ => (match compE c n a with | some a => some (.neg a) | none => none)
    | .UnaryOp .Not a _ => (match compE c n a with | some a => some (.not a) | none => none)
    | .BoolOp .And es _ => compAnd c n es
    | .BoolOp .Or es _ => match es with
      | [a, b] => if isListCall c a then (match compE c n a, compE c n b with | some a, some b => some (.orV a b) | _, _ => none) else compOr c n [a, b]
      | es => compOr c n es
    | .IfExp t a b _ => match compE c n t, compE c n a, compE c n b with
      | some t, some a, some b => some (.ite t a b)
      | _, _, _ => none
    | .Compare a [o] [b] _ => match o with
      | .Is => if isNone b then (match compE c n a with | some a => some (.cmp .isN a (.const .none)) | none => none) else none
      | .IsNot => if isNone b then (match compE c n a with | some a => some (.cmp .notN a (.const .none)) | none => none) else none
      | .In => compIn c n false a b
      | .NotIn => compIn c n true a b
      | o => match cmOf o, compE c n a, compE c n b with
        | some o, some a, some b => some (.cmp o a b)
        | _, _, _ => none
    | .Compare a [o, p] [b, d] _ => match cmOf o, cmOf p, compE c n a, compE c n b, compE c n d with
      | some o, some p, some a, some b, some d => some (.chain o p a b d)
      | _, _, _, _, _ => none
    | .Tuple es _ _ => (match compA c n es with | some a => some (.tup a) | none => none)
    | .List es _ => (match compA c n es with | some a => some (.lst a) | none => none)
    | .Dict ks vs _ => if ks.length ≤ 15 then (match compD c n ks vs with | some a => some (.dict a) | none => none) else none
    | .Subscript a (.Slice none none (some (.UnaryOp .USub (.Constant (.int 1) _ _) _)) _) _ => (match compE c n a with | some a => some (.rev a) | none => none)
    | .Subscript a (.Slice lo hi none _) _ => match compE c n a, compO c n lo, compO c n hi with
      | some a, some l, some h => some (.slice a l h)
      | _, _, _ => none
    | .Subscript a (.Slice _ _ _ _) _ => none
    | .Subscript (.Name x _) i _ => match slot? c x with
      | some k => (match compE c n i with | some i => some (.idxv k i) | none => none)
      | none => if isGl c.sc x then (match c.cst x, compE c n i with | some v, some i => some (.idx (.const v) i) | _, _ => none) else none
    | .Subscript a i _ => match compE c n a, compE c n i with
      | some a, some i => some (.idx a i)
      | _, _ => none
    | .ListComp elt gs scope _ => lcOf c (fun b e => compIt c n b e) (fun c e => compIf c n e) (fun c e => compE c n e) elt gs scope
    | .Call (.Name x _) args kws _ => compCall c n x args kws
    | .Call (.Attribute r m ap) args [] pos => if plainA args && baseOk r && (ap.endLine == pos.line) && decide (args.length < 30) then compMeth c n r m args else none
    | _ => none
def compAnd (c : Ctx) : Nat → List Expr → Option E
  | 0, _ => none
  | n + 1, es => match es with
    | [a] => compE c n a
    | a :: r => match compE c n a, compAnd c n r with
      | some a, some b => some (.and a b)
      | _, _ => none
    | [] => none
def compOr (c : Ctx) : Nat → List Expr → Option E
  | 0, _ => none
  | n + 1, es => match es with
    | [a] => compE c n a
    | a :: r => match compE c n a, compOr c n r with
      | some a, some b => some (.or a b)
      | _, _ => none
    | [] => none
def compIn (c : Ctx) : Nat → Bool → Expr → Expr → Option E
  | 0, _, _, _ => none
  | n + 1, k, a, b => match b with
    | .Name x _ => match slot? c x with
      | some i => (match compE c n a with | some a => some (.inv k a i) | none => none)
      | none => match compE c n a, compE c n b with
        | some a, some b => some (.cmp (if k then .notin else .in_) a b)
        | _, _ => none
    | b => match compE c n a, compE c n b with
      | some a, some b => some (.cmp (if k then .notin else .in_) a b)
      | _, _ => none
def compA (c : Ctx) : Nat → List Expr → Option E
  | 0, _ => none
  | n + 1, es => match es with
    | [] => some .nil
    | .Starred e _ :: r => match compE c n e, compA c n r with
      | some h, some t => some (.scons h t)
      | _, _ => none
    | e :: r => match compE c n e, compA c n r with
      | some h, some t => some (.cons h t)
      | _, _ => none
def compD (c : Ctx) : Nat → List (Option Expr) → List Expr → Option E
  | 0, _, _ => none
  | n + 1, ks, vs => match ks, vs with
    | [], [] => some .nil
    | some k :: ks, v :: vs => match compE c n k, compE c n v, compD c n ks vs with
      | some k, some v, some t => some (.cons k (.cons v t))
      | _, _, _ => none
    | _, _ => none
def compO (c : Ctx) : Nat → Option Expr → Option E
  | 0, _ => none
  | _ + 1, none => some .nil
  | n + 1, some e => (match compE c n e with | some .nil => none | r => r)
def compIf (c : Ctx) : Nat → List Expr → Option E
  | 0, _ => none
  | n + 1, es => match es with
    | [] => some (.const (.bool true))
    | [e] => compE c n e
    | _ => none
/-- what is walked -/
def compIt (c : Ctx) : Nat → Bool → Expr → Option E
  | 0, _, _ => none
  | n + 1, tp, e => match e with
    | .Call (.Name x _) args [] _ =>
      if bltIs c x "range" then (match args with
        | [a] => if plainA args then (match compE c n a with | some a => some (.range (.cons a .nil)) | none => none) else none
        | [a, b] => if plainA args then (match compE c n a, compE c n b with | some a, some b => some (.range (.cons a (.cons b .nil))) | _, _ => none) else none
        | [a, b, d] => if plainA args then (match compE c n a, compE c n b, compE c n d with | some a, some b, some d => some (.range (.cons a (.cons b (.cons d .nil)))) | _, _, _ => none) else none
        | _ => none)
      else if bltIs c x "enumerate" then (match args with
        | [a] => if tp && plainA args then (match compE c n a with | some a => some (.enum a) | none => none) else none
        | _ => none)
      else if bltIs c x "zip" then (match args with
        | [a, b] => if tp && plainA args then (match compE c n a, compE c n b with | some a, some b => some (.zip (.cons a (.cons b .nil))) | _, _ => none) else none
        | [a, b, d] => if tp && plainA args then (match compE c n a, compE c n b, compE c n d with | some a, some b, some d => some (.zip (.cons a (.cons b (.cons d .nil)))) | _, _, _ => none) else none
        | _ => none)
      else compE c n e
    | .Call (.Attribute r m ap) [] [] pos => if m = "items" then (if tp && baseOk r && (ap.endLine == pos.line) then (match compE c n r with | some r => some (.items r) | none => none) else none) else compE c n e
    | e => compE c n e
/-- list(..), tuple(..) of what -/
def compLi (c : Ctx) : Nat → Expr → Option E
  | 0, _ => none
  | n + 1, e => match e with
    | .Call (.Name x _) args [] _ =>
      if bltIs c x "range" then (match args with
        | [a] => if plainA args then (match compE c n a with | some a => some (.range (.cons a .nil)) | none => none) else none
        | [a, b] => if plainA args then (match compE c n a, compE c n b with | some a, some b => some (.range (.cons a (.cons b .nil))) | _, _ => none) else none
        | [a, b, d] => if plainA args then (match compE c n a, compE c n b, compE c n d with | some a, some b, some d => some (.range (.cons a (.cons b (.cons d .nil)))) | _, _, _ => none) else none
        | _ => none)
      else if bltIs c x "zip" then (match args with
        | [a, b] => if plainA args then (match compE c n a, compE c n b with | some a, some b => some (.zip (.cons a (.cons b .nil))) | _, _ => none) else none
        | [a, b, d] => if plainA args then (match compE c n a, compE c n b, compE c n d with | some a, some b, some d => some (.zip (.cons a (.cons b (.cons d .nil)))) | _, _, _ => none) else none
        | _ => none)
      else compE c n e
    | e => compE c n e
def compCall (c : Ctx) : Nat → Str → List Expr → List Keyword → Option E
  | 0, _, _, _ => none
  | n + 1, x, args, kws =>
    if isGl c.sc x && plainA args then
      match c.fn x with
      | some (f, io) => if kws.isEmpty then callDef c (fun a => compA c n a) f io args else none
      | none => match kws with
        | [] => match args with
          | [a] => callB1 c (fun a => compE c n a) (fun a => compLi c n a) x a
          | [a, b] => callB2 c (fun a => compE c n a) x a b
          | [a, b, d] => callB3 c (fun a => compE c n a) x a b d
          | _ => none
        | [⟨some k, d, _⟩] => match args with
          | [a] => callKw c (fun a => compE c n a) x k a d
          | _ => none
        | _ => none
    else none
def compMeth (c : Ctx) : Nat → Expr → Str → List Expr → Option E
  | 0, _, _, _ => none
  | n + 1, r, m, args => match r with
    | .Name y _ => match slot? c y with
      | some i => methV (fun a => compE c n a) i m args
      | none => none
    | r => match compE c n r with
      | some r => methR (fun a => compE c n a) r m args
      | none => none
end
/-- plain names, each once -/
def slotsOf (c : Ctx) : List Expr → Option (List Nat)
  | [] => some []
  | .Name x _ :: r => if isLoc c.sc x then (match ixOf x c.N 0, slotsOf c r with
    | some i, some l => if i ∈ l then none else some (i :: l)
    | _, _ => none) else none
  | _ => none
/-- a, b = x, y: nothing that the model leaves open -/
def parOk (ts es : List Expr) : Bool := plainA es && decide (es.length = ts.length) && decide (ts.length ≤ 8) && (es.all (PySem.foldedForSure 8) || !(es.all (PySem.constantsAlone 8)))
def opAs : Operator → Option Op
  | .Add => some .add
  | .Sub => some .sub
  | _ => none
mutual
def compS (c : Ctx) : Nat → Stmt → Option S
  | 0, _ => none
  | n + 1, s => match s with
    | .Pass _ => some .skip
    | .Break _ => some .brk
    | .Continue _ => some .cont
    | .Raise _ _ _ => some .fail
    | .Return none _ => some (.ret (.const .none))
    | .Return (some e) _ => match compE c n e with
      | some (.var i) => (match e with
        | .Name x _ => if slot? c x = some i then some (.ret (.var i)) else none
        | _ => none)
      | some ie => some (.ret ie)
      | none => none
    | .If t a b _ => match compE c n t, compSs c n a, compSs c n b with
      | some t, some a, some b => some (.ite t a b)
      | _, _, _ => none
    | .While t a [] _ => match compE c n t, compSs c n a with
      | some t, some a => some (.while_ t a)
      | _, _ => none
    | .For tg it b [] _ => match compT c 8 tg, compIt c n (isTupE tg) it, compSs c n b with
      | some t, some it, some b => some (.for_ t it b)
      | _, _, _ => none
    | .Expr (.Call (.Attribute (.Name y _) m ap) [a] [] pos) _ => match slot? c y with
      | some i => if !(ap.endLine == pos.line) then none else if m = "append" then (match compE c n a with | some a => some (.app i a) | none => none)
        else if m = "extend" then (match compE c n a with | some a => some (.ext i a) | none => none) else none
      | none => none
    | .Expr (.Call (.Name y p) args [] p2) _ => (match compE c n (.Call (.Name y p) args [] p2) with | some e => some (.expr e) | none => none)
    | .AugAssign (.Name x _) o e _ => if isLoc c.sc x then (match ixOf x c.N 0, opAs o, compE c n e with
      | some i, some o, some e => some (.aug i o e)
      | _, _, _ => none) else none
    | .AugAssign (.Subscript (.Name x _) ix _) o e _ => match slot? c x, compE c n ix, opAs o, compE c n e with
      | some i, some ix, some o, some e => some (.augi i ix o e)
      | _, _, _, _ => none
    | .Assign [.Name x _] e _ => if isLoc c.sc x then (match ixOf x c.N 0, compE c n e with
      | some i, some e => some (.asg i e)
      | _, _ => none) else none
    | .Assign [.Subscript (.Name x _) ix _] e _ => match slot? c x, compE c n ix, compE c n e with
      | some i, some ix, some e => some (.seti i ix e)
      | _, _, _ => none
    | .Assign [.Tuple [.Subscript (.Name x _) ix _, .Subscript (.Name y _) jx _] _ _] e _ => match slot? c x, compE c n ix, slot? c y, compE c n jx, compE c n e with
      | some i, some ix, some j, some jx, some e => some (.seti2 i ix j jx e)
      | _, _, _, _, _ => none
    | .Assign [.Tuple ts _ _] (.Tuple es _ _) _ => match slotsOf c ts, compA c n es with
      | some is, some a => if parOk ts es then some (.par is a) else none
      | _, _ => none
    | .Assign [.Tuple ts k p] e _ => match compT c 8 (.Tuple ts k p), compE c n e with
      | some t, some e => some (.asgT t e)
      | _, _ => none
    | _ => none
def compSs (c : Ctx) : Nat → List Stmt → Option S
  | 0, _ => none
  | n + 1, ss => match ss with
    | [] => some .skip
    | [s] => compS c n s
    | s :: r => match compS c n s, compSs c n r with
      | some a, some b => some (.seq a b)
      | _, _ => none
end
end Q

end
section
set_option Elab.async false
set_option linter.all false
set_option maxRecDepth 100000
/-! Q: what Q's values are in the layer's heap. -/
namespace Q
open PySem PySem.Spec PyProof.Rows L2
abbrev AP1 := Addr → Prop
section
variable (K : PySem.W.Frag) (w : World)
def KL (a : Addr) (xs : List V) : Prop := ∃ (o : Obj) (its : Array Value) (n : Nat), K.lookup a = some o ∧ o.cls = .type "list" ∧ o.dict = none ∧ o.data = .seq its n ∧ its.size ≤ sizeLine ∧ Vals xs its.toList
def KT (a : Addr) (xs : List V) : Prop := ∃ (o : Obj) (its : Array Value) (n : Nat), K.lookup a = some o ∧ o.cls = .type "tuple" ∧ o.data = .seq its n ∧ its.size ≤ sizeLine ∧ Vals xs its.toList
def LstAt (N : AP1) (H : Hp) (a : Addr) (xs : List V) : Prop := (Rd H a (.lst xs) ∧ ¬ N a) ∨ KL K a xs
def TupAt (N : AP1) (H : Hp) (a : Addr) (xs : List V) : Prop := (Rd H a (.tup xs) ∧ ¬ N a) ∨ KT K a xs
mutual
def Rep (N : AP1) (H : Hp) : Val → V → Prop
  | .none, x => x = .non
  | .bool b, x => x = .bl b
  | .int i, x => x = .int i
  | .str s, x => x = .str s
  | .tup l, x => ∃ a xs, x = .ref a ∧ TupAt K N H a xs ∧ l.length ≤ sizeLine ∧ RepL N H l xs
  | .lst l, x => ∃ a xs, x = .ref a ∧ H a = some (.lst xs) ∧ ¬ N a ∧ l.length ≤ sizeLine ∧ RepL N H l xs
  | .scr l, x => ∃ a xs, x = .ref a ∧ LstAt K N H a xs ∧ l.length ≤ sizeLine ∧ RepL N H l xs
  | .dict ks vs, x => ∃ a ys, x = .ref a ∧ Rd H a (.dK ys) ∧ ¬ N a ∧ ys.map (·.1) = ks ∧ RepL N H vs (ys.map (·.2))
  | .set l, x => ∃ a, x = .ref a ∧ H a = some (.set (fun i => decide (i ∈ l)) l.length) ∧ ¬ N a ∧ w = w
def RepL (N : AP1) (H : Hp) : List Val → List V → Prop
  | [], xs => xs = []
  | v :: l, xs => ∃ x r, xs = x :: r ∧ Rep N H v x ∧ RepL N H l r
end
/-- a list or dict that is owned at a -/
def Own (N : AP1) (H : Hp) (a : Addr) : Val → Prop
  | .lst l => ∃ xs, H a = some (.lst xs) ∧ l.length ≤ sizeLine ∧ RepL K w N H l xs
  | .dict ks vs => ∃ ys, H a = some (.dK ys) ∧ ys.map (·.1) = ks ∧ RepL K w N H vs (ys.map (·.2))
  | _ => False
end
section
variable {K : PySem.W.Frag} {w : World} {N N' : AP1} {H H' : Hp}
/-- kept, or a dict that is locked now -/
def Le (o o' : HO) : Prop := o' = o ∨ ∃ ys od, o = .dK ys ∧ o' = .frz od (.dK ys)
theorem Le.refl {o : HO} : Le o o := .inl rfl
theorem Le.trans {a b c : HO} (h : Le a b) (k : Le b c) : Le a c := by
  rcases h with rfl | ⟨ys, od, rfl, rfl⟩
  · exact k
  · rcases k with rfl | ⟨zs, oe, e, rfl⟩
    · exact .inr ⟨ys, od, rfl, rfl⟩
    · cases e
theorem Le.eq {a b : HO} (h : Le a b) (n : ∀ ys, a ≠ .dK ys) : b = a := by
  rcases h with rfl | ⟨ys, od, rfl, rfl⟩
  · rfl
  · exact absurd rfl (n ys)
/-- what is used is kept -/
def Kp (N : AP1) (H : Hp) (N' : AP1) (H' : Hp) : Prop := ∀ a o, H a = some o → ¬ N a → (∃ o', H' a = some o' ∧ Le o o') ∧ ¬ N' a
theorem Kp.refl : Kp N H N H := fun a o h n => ⟨⟨o, h, .refl⟩, n⟩
theorem Kp.trans {N2 : AP1} {H2 : Hp} (h : Kp N H N' H') (k : Kp N' H' N2 H2) : Kp N H N2 H2 := fun a o e n => by
  obtain ⟨⟨o1, e1, l1⟩, n1⟩ := h a o e n
  obtain ⟨⟨o2, e2, l2⟩, n2⟩ := k a o1 e1 n1
  exact ⟨⟨o2, e2, l1.trans l2⟩, n2⟩
theorem Kp.sub (h : ∀ a, N' a → N a) : Kp N H N' H := fun a o e n => ⟨⟨o, e, .refl⟩, fun z => n (h a z)⟩
theorem Kp.at {a : Addr} {o : HO} (k : Kp N H N' H') (e : H a = some o) (n : ¬ N a) (h : ∀ ys, o ≠ .dK ys) : H' a = some o ∧ ¬ N' a := by
  obtain ⟨⟨o1, e1, l1⟩, n1⟩ := k a o e n
  rw [l1.eq h] at e1
  exact ⟨e1, n1⟩
theorem Kp.dk {a : Addr} {ys : List (Key × V)} (k : Kp N H N' H') (e : Rd H a (.dK ys)) (n : ¬ N a) : Rd H' a (.dK ys) ∧ ¬ N' a := by
  rcases e with e | ⟨o, e⟩
  · obtain ⟨⟨o1, e1, l1⟩, n1⟩ := k a _ e n
    rcases l1 with rfl | ⟨zs, od, q, rfl⟩
    · exact ⟨.inl e1, n1⟩
    · cases q; exact ⟨.inr ⟨_, e1⟩, n1⟩
  · obtain ⟨e1, n1⟩ := k.at e n (fun _ z => nomatch z)
    exact ⟨.inr ⟨o, e1⟩, n1⟩
/-- all that is there is kept -/
theorem Kp.all (h : ∀ a o, H a = some o → H' a = some o) (hn : ∀ a, (∃ o, H a = some o) → N' a → N a) : Kp N H N' H' := fun a o e n => ⟨⟨o, h a o e, .refl⟩, fun z => n (hn a ⟨o, e⟩ z)⟩
theorem LstAt.kp {a : Addr} {xs : List V} (k : Kp N H N' H') (h : LstAt K N H a xs) : LstAt K N' H' a xs := by
  rcases h with ⟨r, n⟩ | h
  · rcases r with e | ⟨o, e⟩
    · have q := k.at e n (fun _ z => nomatch z)
      exact .inl ⟨.inl q.1, q.2⟩
    · have q := k.at e n (fun _ z => nomatch z)
      exact .inl ⟨.inr ⟨o, q.1⟩, q.2⟩
  · exact .inr h
theorem TupAt.kp {a : Addr} {xs : List V} (k : Kp N H N' H') (h : TupAt K N H a xs) : TupAt K N' H' a xs := by
  rcases h with ⟨r, n⟩ | h
  · rcases r with e | ⟨o, e⟩
    · have q := k.at e n (fun _ z => nomatch z)
      exact .inl ⟨.inl q.1, q.2⟩
    · have q := k.at e n (fun _ z => nomatch z)
      exact .inl ⟨.inr ⟨o, q.1⟩, q.2⟩
  · exact .inr h
theorem LstAt.sq {a : Addr} {xs : List V} (h : LstAt K N H a xs) : SqL K H a xs := by
  rcases h with ⟨r, n⟩ | h
  · exact .inl r
  · exact .inr h
theorem TupAt.sq {a : Addr} {xs : List V} (h : TupAt K N H a xs) : SqT K H a xs := by
  rcases h with ⟨r, n⟩ | h
  · exact .inl r
  · exact .inr h
mutual
theorem Rep.kp (k : Kp N H N' H') : ∀ {v : Val} {x : V}, Rep K w N H v x → Rep K w N' H' v x
  | .none, _, h => by simpa [Rep] using h
  | .bool _, _, h => by simpa [Rep] using h
  | .int _, _, h => by simpa [Rep] using h
  | .str _, _, h => by simpa [Rep] using h
  | .tup l, _, h => by
    simp only [Rep] at h ⊢
    obtain ⟨a, xs, e, t, z, r⟩ := h
    exact ⟨a, xs, e, t.kp k, z, RepL.kp k r⟩
  | .lst l, _, h => by
    simp only [Rep] at h ⊢
    obtain ⟨a, xs, e, t, n, z, r⟩ := h
    have q := k.at t n (fun _ z => nomatch z)
    exact ⟨a, xs, e, q.1, q.2, z, RepL.kp k r⟩
  | .scr l, _, h => by
    simp only [Rep] at h ⊢
    obtain ⟨a, xs, e, t, z, r⟩ := h
    exact ⟨a, xs, e, t.kp k, z, RepL.kp k r⟩
  | .dict ks vs, _, h => by
    simp only [Rep] at h ⊢
    obtain ⟨a, ys, e, t, n, z, r⟩ := h
    have q := k.dk t n
    exact ⟨a, ys, e, q.1, q.2, z, RepL.kp k r⟩
  | .set l, _, h => by
    simp only [Rep] at h ⊢
    obtain ⟨a, e, t, n, _⟩ := h
    have q := k.at t n (fun _ z => nomatch z)
    exact ⟨a, e, q.1, q.2, trivial⟩
theorem RepL.kp (k : Kp N H N' H') : ∀ {l : List Val} {xs : List V}, RepL K w N H l xs → RepL K w N' H' l xs
  | [], _, h => by simpa [RepL] using h
  | v :: l, _, h => by
    simp only [RepL] at h ⊢
    obtain ⟨x, r, e, a, b⟩ := h
    exact ⟨x, r, e, Rep.kp k a, RepL.kp k b⟩
end
theorem RepL.length : ∀ {l : List Val} {xs : List V}, RepL K w N H l xs → xs.length = l.length
  | [], _, h => by simp only [RepL] at h; subst h; rfl
  | v :: l, _, h => by
    simp only [RepL] at h
    obtain ⟨x, r, rfl, a, b⟩ := h
    simp [RepL.length b]
theorem RepL.nil : RepL K w N H [] [] := by simp [RepL]
theorem RepL.cons {v : Val} {x : V} {l : List Val} {xs : List V} (h : Rep K w N H v x) (t : RepL K w N H l xs) : RepL K w N H (v :: l) (x :: xs) := by
  simp only [RepL]; exact ⟨x, xs, rfl, h, t⟩
theorem RepL.append : ∀ {l m : List Val} {xs ys : List V}, RepL K w N H l xs → RepL K w N H m ys → RepL K w N H (l ++ m) (xs ++ ys)
  | [], _, _, _, h, k => by simp only [RepL] at h; subst h; exact k
  | v :: l, _, _, _, h, k => by
    simp only [RepL] at h
    obtain ⟨x, r, rfl, a, b⟩ := h
    exact RepL.cons a (RepL.append b k)
theorem RepL.get : ∀ {l : List Val} {xs : List V} {i : Nat} {v : Val}, RepL K w N H l xs → l[i]? = some v → ∃ x, xs[i]? = some x ∧ Rep K w N H v x
  | [], _, _, _, _, e => by simp at e
  | u :: l, _, 0, v, h, e => by
    simp only [RepL] at h
    obtain ⟨x, r, rfl, a, b⟩ := h
    simp at e; subst e
    exact ⟨x, rfl, a⟩
  | u :: l, _, i + 1, v, h, e => by
    simp only [RepL] at h
    obtain ⟨x, r, rfl, a, b⟩ := h
    exact RepL.get (i := i) b (by simpa using e)
theorem RepL.take (n : Nat) : ∀ {l : List Val} {xs : List V}, RepL K w N H l xs → RepL K w N H (l.take n) (xs.take n) := by
  induction n with
  | zero => intro l xs h; simp [RepL.nil]
  | succ n ih =>
    intro l xs h
    cases l with
    | nil => simp only [RepL] at h; subst h; exact RepL.nil
    | cons v l =>
      simp only [RepL] at h
      obtain ⟨x, r, rfl, a, b⟩ := h
      exact RepL.cons a (ih b)
theorem RepL.drop (n : Nat) : ∀ {l : List Val} {xs : List V}, RepL K w N H l xs → RepL K w N H (l.drop n) (xs.drop n) := by
  induction n with
  | zero => intro l xs h; exact h
  | succ n ih =>
    intro l xs h
    cases l with
    | nil => simp only [RepL] at h; subst h; exact RepL.nil
    | cons v l =>
      simp only [RepL] at h
      obtain ⟨x, r, rfl, a, b⟩ := h
      exact ih b
theorem RepL.set {v : Val} {x : V} (hv : Rep K w N H v x) : ∀ (i : Nat) {l : List Val} {xs : List V}, RepL K w N H l xs → RepL K w N H (l.set i v) (xs.set i x) := by
  intro i
  induction i with
  | zero =>
    intro l xs h
    cases l with
    | nil => simp only [RepL] at h; subst h; exact RepL.nil
    | cons u l =>
      simp only [RepL] at h
      obtain ⟨y, r, rfl, a, b⟩ := h
      exact RepL.cons hv b
  | succ n ih =>
    intro l xs h
    cases l with
    | nil => simp only [RepL] at h; subst h; exact RepL.nil
    | cons u l =>
      simp only [RepL] at h
      obtain ⟨y, r, rfl, a, b⟩ := h
      exact RepL.cons a (ih b)
theorem RepL.ints : ∀ {l : List Val} {xs : List V} {m : List Int}, RepL K w N H l xs → asInts l = some m → xs = m.map V.int
  | [], _, m, h, e => by simp only [RepL] at h; subst h; simp [asInts] at e; subst e; rfl
  | .int i :: l, _, m, h, e => by
    simp only [RepL] at h
    obtain ⟨x, r, rfl, a, b⟩ := h
    simp only [Rep] at a
    subst a
    simp only [asInts] at e
    split at e
    · rename_i q e2
      cases e
      rw [RepL.ints b e2]; rfl
    · cases e
  | .none :: l, _, m, h, e => by simp [asInts] at e
  | .bool _ :: l, _, m, h, e => by simp [asInts] at e
  | .str _ :: l, _, m, h, e => by simp [asInts] at e
  | .tup _ :: l, _, m, h, e => by simp [asInts] at e
  | .lst _ :: l, _, m, h, e => by simp [asInts] at e
  | .dict _ _ :: l, _, m, h, e => by simp [asInts] at e
  | .set _ :: l, _, m, h, e => by simp [asInts] at e
  | .scr _ :: l, _, m, h, e => by simp [asInts] at e
theorem RepL.bools : ∀ {l : List Val} {xs : List V} {m : List Bool}, RepL K w N H l xs → asBools l = some m → xs = m.map V.bl
  | [], _, m, h, e => by simp only [RepL] at h; subst h; simp [asBools] at e; subst e; rfl
  | .bool i :: l, _, m, h, e => by
    simp only [RepL] at h
    obtain ⟨x, r, rfl, a, b⟩ := h
    simp only [Rep] at a
    subst a
    simp only [asBools] at e
    split at e
    · rename_i q e2
      cases e
      rw [RepL.bools b e2]; rfl
    · cases e
  | .none :: l, _, m, h, e => by simp [asBools] at e
  | .int _ :: l, _, m, h, e => by simp [asBools] at e
  | .str _ :: l, _, m, h, e => by simp [asBools] at e
  | .tup _ :: l, _, m, h, e => by simp [asBools] at e
  | .lst _ :: l, _, m, h, e => by simp [asBools] at e
  | .dict _ _ :: l, _, m, h, e => by simp [asBools] at e
  | .set _ :: l, _, m, h, e => by simp [asBools] at e
  | .scr _ :: l, _, m, h, e => by simp [asBools] at e
theorem RepL.of_ints : ∀ (m : List Int), RepL K w N H (m.map Val.int) (m.map V.int)
  | [] => RepL.nil
  | i :: m => RepL.cons (by simp [Rep]) (RepL.of_ints m)
theorem Own.kp {a : Addr} {v : Val} (k : Kp N H N' H') (ha : ∀ o, H a = some o → H' a = some o) (h : Own K w N H a v) : Own K w N' H' a v := by
  cases v with
  | lst l => obtain ⟨xs, e, z, r⟩ := h; exact ⟨xs, ha _ e, z, r.kp k⟩
  | dict ks vs => obtain ⟨xs, e, z, r⟩ := h; exact ⟨xs, ha _ e, z, r.kp k⟩
  | _ => exact h.elim
theorem Own.some {a : Addr} {v : Val} (h : Own K w N H a v) : ∃ o, H a = some o := by
  cases v with
  | lst l => obtain ⟨xs, e, z, r⟩ := h; exact ⟨_, e⟩
  | dict ks vs => obtain ⟨xs, e, z, r⟩ := h; exact ⟨_, e⟩
  | _ => exact h.elim
/-- an owned thing is a thing, once it is not owned -/
theorem Own.rep {a : Addr} {v : Val} (h : Own K w N H a v) (hn : ¬ N' a) (k : ∀ b, N' b → N b) : Rep K w N' H v (.ref a) := by
  cases v with
  | lst l => obtain ⟨xs, e, z, r⟩ := h; simp only [Rep]; exact ⟨a, xs, rfl, e, hn, z, r.kp (.sub k)⟩
  | dict ks vs => obtain ⟨ys, e, z, r⟩ := h; simp only [Rep]; exact ⟨a, ys, rfl, .inl e, hn, z, r.kp (.sub k)⟩
  | _ => exact h.elim
end
end Q

end
section
set_option Elab.async false
set_option linter.all false
set_option maxRecDepth 100000
/-! Q: states. -/
namespace Q
open PySem PySem.Spec PyProof.Rows L2
abbrev Ow := Nat → Option Addr
def NN (Mo : AP1) (own : Ow) : AP1 := fun a => Mo a ∨ ∃ i, own i = some a
def ad (Mo : AP1) (A : List Addr) : AP1 := fun a => Mo a ∨ a ∈ A
theorem ad_nil (Mo : AP1) : ad Mo [] = Mo := by funext a; simp [ad]
theorem ad_ad (Mo : AP1) (A B : List Addr) : ad (ad Mo A) B = ad Mo (A ++ B) := by
  funext a; simp [ad, or_assoc]
section
variable (K : PySem.W.Frag) (w : World)
def SlotOk (N : AP1) (H : Hp) (L : Option Addr) (s : Slot) (x : Option (Option V)) (o : Option Addr) : Prop :=
  match s with
  | none => o = none
  | some (v, .sh) => o = none ∧ ∃ y, x = some (some y) ∧ Rep K w N H v y
  | some (v, .ow) => ∃ a, o = some a ∧ x = some (some (.ref a)) ∧ Own K w N H a v
  | some (v, .ln) => ∃ a, o = some a ∧ L = some a ∧ x = some (some (.ref a)) ∧ Own K w N H a v
structure RS (Mo : AP1) (L : Option Addr) (own : Ow) (H : Hp) (σ : L2.St) (env : Env) : Prop where
  len : env.length = σ.length
  inj : ∀ i j a, own i = some a → own j = some a → i = j
  nmo : ∀ i a, own i = some a → ¬ Mo a
  mos : ∀ a, Mo a → ∃ o, H a = some o
  slot : ∀ i, SlotOk K w (NN Mo own) H L (eget env i) σ[i]? (own i)
def RR (N : AP1) (H : Hp) (r : Res) (x : V) (A : List Addr) : Prop :=
  match r with
  | (v, false) => A = [] ∧ Rep K w N H v x
  | (v, true) => ∃ a, A = [a] ∧ x = .ref a ∧ Own K w N H a v
def RRs (N : AP1) (H : Hp) : List Res → List V → List Addr → Prop
  | [], xs, A => xs = [] ∧ A = []
  | r :: rs, xs, A => ∃ x ys A1 A2, xs = x :: ys ∧ A = A1 ++ A2 ∧ RR K w N H r x A1 ∧ RRs N H rs ys A2
end
structure Keep (Mo : AP1) (own : Ow) (H : Hp) (own' : Ow) (H' : Hp) (A : List Addr) : Prop where
  kept : ∀ u o, H u = some o → (∀ i, own i ≠ some u) → (∃ o', H' u = some o' ∧ Le o o') ∧ ∀ i, own' i ≠ some u
  strict : ∀ u o, Mo u → H u = some o → H' u = some o
  there : ∀ u o, H u = some o → ∃ o', H' u = some o'
  new : ∀ a ∈ A, H a = none ∨ ∃ i, own i = some a
section
variable {K : PySem.W.Frag} {w : World} {Mo Mo' : AP1} {L : Option Addr} {own own' own1 own2 : Ow} {H H' H1 H2 : Hp} {σ : L2.St} {env env' env1 env2 : Env} {A A1 A2 : List Addr}
theorem Keep.refl : Keep Mo own H own H [] := ⟨fun u o e n => ⟨⟨o, e, .refl⟩, n⟩, fun u o _ e => e, fun u o e => ⟨o, e⟩, by simp⟩
theorem Keep.trans (hM : ∀ u, Mo u → Mo' u) (k : Keep Mo own H own1 H1 A1) (q : Keep Mo' own1 H1 own2 H2 A2) : Keep Mo own H own2 H2 (A1 ++ A2) := by
  refine ⟨fun u o e n => ?_, fun u o m e => q.strict u o (hM u m) (k.strict u o m e), fun u o e => ?_, fun a ha => ?_⟩
  · obtain ⟨⟨o1, e1, l1⟩, n1⟩ := k.kept u o e n
    obtain ⟨⟨o2, e2, l2⟩, n2⟩ := q.kept u o1 e1 n1
    exact ⟨⟨o2, e2, l1.trans l2⟩, n2⟩
  · obtain ⟨o1, e1⟩ := k.there u o e
    exact q.there u o1 e1
  · rcases List.mem_append.mp ha with ha | ha
    · exact k.new a ha
    · by_cases hx : ∃ i, own i = some a
      · exact .inr hx
      · refine .inl ?_
        cases e : H a with
        | none => rfl
        | some o =>
          obtain ⟨⟨o1, e1, l1⟩, n1⟩ := k.kept a o e fun i z => hx ⟨i, z⟩
          rcases q.new a ha with z | ⟨i, z⟩
          · rw [e1] at z; cases z
          · exact absurd z (n1 i)
theorem Keep.less (k : Keep Mo own H own' H' A) (h : ∀ a ∈ A1, a ∈ A) : Keep Mo own H own' H' A1 := ⟨k.kept, k.strict, k.there, fun a ha => k.new a (h a ha)⟩
theorem Keep.kp (k : Keep Mo own H own' H' A) : Kp (NN Mo own) H (NN (ad Mo A) own') H' := fun a o e n => by
  have n' : ∀ i, own i ≠ some a := fun i z => n (.inr ⟨i, z⟩)
  obtain ⟨e1, n1⟩ := k.kept a o e n'
  refine ⟨e1, ?_⟩
  rintro ((z | z) | ⟨i, z⟩)
  · exact n (.inl z)
  · rcases k.new a z with q | ⟨i, q⟩
    · rw [e] at q; cases q
    · exact n' i q
  · exact n1 i z
theorem Keep.kp0 (k : Keep Mo own H own' H' []) : Kp (NN Mo own) H (NN Mo own') H' := by
  have := k.kp; rwa [ad_nil] at this
theorem SlotOk.kp {N N' : AP1} {s : Slot} {x : Option (Option V)} {o : Option Addr} (k : Kp N H N' H') (ho : ∀ a, o = some a → ∀ u, H a = some u → H' a = some u) (h : SlotOk K w N H L s x o) : SlotOk K w N' H' L s x o := by
  unfold SlotOk at h ⊢
  split at h
  · exact h
  · obtain ⟨e, y, e2, r⟩ := h; exact ⟨e, y, e2, r.kp k⟩
  · obtain ⟨a, e, e2, r⟩ := h; exact ⟨a, e, e2, r.kp k (ho a e)⟩
  · obtain ⟨a, e, e3, e2, r⟩ := h; exact ⟨a, e, e3, e2, r.kp k (ho a e)⟩
/-- fewer things to keep off -/
theorem RS.shrink (r : RS K w Mo L own H σ env) (h : ∀ a, Mo' a → Mo a) : RS K w Mo' L own H σ env :=
  ⟨r.len, r.inj, fun i a e z => r.nmo i a e (h a z), fun a z => r.mos a (h a z), fun i => (r.slot i).kp (.sub fun a z => z.elim (fun z => .inl (h a z)) .inr) (fun _ _ _ e => e)⟩
/-- more objects -/
theorem RS.grow (r : RS K w Mo L own H σ env) (h : ∀ a o, H a = some o → H' a = some o) (hM : ∀ a, Mo a → Mo' a) (hn : ∀ a, Mo' a → Mo a ∨ H a = none) (hm : ∀ a, Mo' a → ∃ o, H' a = some o) : RS K w Mo' L own H' σ env := by
  have hown : ∀ i a, own i = some a → ∃ o, H a = some o := fun i a e => by
    have q := r.slot i
    unfold SlotOk at q
    split at q
    · rw [q] at e; cases e
    · rw [q.1] at e; cases e
    · obtain ⟨b, e1, e2, o⟩ := q; rw [e1] at e; cases e; exact o.some
    · obtain ⟨b, e1, e3, e2, o⟩ := q; rw [e1] at e; cases e; exact o.some
  refine ⟨r.len, r.inj, fun i a e z => ?_, hm, fun i => (r.slot i).kp (fun a o e n => ⟨⟨o, h a o e, .refl⟩, ?_⟩) (fun a _ u e => h a u e)⟩
  · rcases hn a z with q | q
    · exact r.nmo i a e q
    · obtain ⟨o, e2⟩ := hown i a e; rw [q] at e2; cases e2
  · rintro (z | z)
    · rcases hn a z with q | q
      · exact n (.inl q)
      · rw [q] at e; cases e
    · exact n (.inr z)
theorem RS.own_some (r : RS K w Mo L own H σ env) {i : Nat} {a : Addr} (e : own i = some a) : ∃ o, H a = some o := by
  have q := r.slot i
  unfold SlotOk at q
  split at q
  · rw [q] at e; cases e
  · rw [q.1] at e; cases e
  · obtain ⟨b, e1, e2, o⟩ := q; rw [e1] at e; cases e; exact o.some
  · obtain ⟨b, e1, e3, e2, o⟩ := q; rw [e1] at e; cases e; exact o.some
theorem RS.nn_some (r : RS K w Mo L own H σ env) {a : Addr} (h : NN Mo own a) : ∃ o, H a = some o := by
  rcases h with h | ⟨i, h⟩
  · exact r.mos a h
  · exact r.own_some h
theorem RR.kp {N N' : AP1} {r : Res} {x : V} (k : Kp N H N' H') (ha : ∀ a ∈ A, ∀ o, H a = some o → H' a = some o) (h : RR K w N H r x A) : RR K w N' H' r x A := by
  unfold RR at h ⊢
  split at h
  · exact ⟨h.1, h.2.kp k⟩
  · obtain ⟨a, e, e2, o⟩ := h; exact ⟨a, e, e2, o.kp k (ha a (by rw [e]; simp))⟩
theorem RRs.kp {N N' : AP1} (k : Kp N H N' H') : ∀ {rs : List Res} {xs : List V} {A : List Addr}, (∀ a ∈ A, ∀ o, H a = some o → H' a = some o) → RRs K w N H rs xs A → RRs K w N' H' rs xs A
  | [], _, _, _, h => h
  | r :: rs, _, _, ha, h => by
    obtain ⟨x, ys, A1, A2, e1, e2, r1, r2⟩ := h
    subst e2
    exact ⟨x, ys, A1, A2, e1, rfl, r1.kp k (fun a z => ha a (by simp [z])), RRs.kp k (fun a z => ha a (by simp [z])) r2⟩
theorem RR.rep {N N' : AP1} {r : Res} {x : V} (h : RR K w N H r x A) (hn : ∀ a ∈ A, ¬ N' a) (hs : ∀ a, N' a → N a) : Rep K w N' H r.1 x := by
  unfold RR at h
  split at h
  · exact h.2.kp (.sub hs)
  · obtain ⟨a, e, rfl, o⟩ := h; exact o.rep (hn a (by rw [e]; simp)) hs
theorem RRs.rep {N N' : AP1} (hs : ∀ a, N' a → N a) : ∀ {rs : List Res} {xs : List V} {A : List Addr}, (∀ a ∈ A, ¬ N' a) → RRs K w N H rs xs A → RepL K w N' H (vals rs) xs
  | [], _, _, _, h => by obtain ⟨rfl, _⟩ := h; exact RepL.nil
  | r :: rs, _, _, hn, h => by
    obtain ⟨x, ys, A1, A2, rfl, rfl, r1, r2⟩ := h
    exact RepL.cons (r1.rep (fun a z => hn a (by simp [z])) hs) (RRs.rep hs (fun a z => hn a (by simp [z])) r2)
end
/-- between two states -/
structure Mid (K : PySem.W.Frag) (w : World) (Mo : AP1) (L : Option Addr) (own : Ow) (H : Hp) (σ : L2.St) (own' : Ow) (A : List Addr) (H' : Hp) (env' : Env) : Prop where
  rs : RS K w (ad Mo A) L own' H' σ env'
  kp : Keep Mo own H own' H' A
  nm : ∀ a ∈ A, ¬ Mo a
  sub : ∀ j a, own' j = some a → own j = some a
section
variable {K : PySem.W.Frag} {w : World} {Mo Mo' : AP1} {L : Option Addr} {own own' own1 own2 : Ow} {H H' H1 H2 : Hp} {σ : L2.St} {env env' env1 env2 : Env} {A A1 A2 : List Addr}
theorem Mid.refl (r : RS K w Mo L own H σ env) : Mid K w Mo L own H σ own [] H env := ⟨by rw [ad_nil]; exact r, .refl, by simp, fun _ _ e => e⟩
theorem Mid.seq (a : Mid K w Mo L own H σ own1 A1 H1 env1) (b : Mid K w (ad Mo A1) L own1 H1 σ own2 A2 H2 env2) : Mid K w Mo L own H σ own2 (A1 ++ A2) H2 env2 :=
  ⟨by have := b.rs; rwa [ad_ad] at this, a.kp.trans (fun _ z => .inl z) b.kp, fun x hx => by
    rcases List.mem_append.mp hx with hx | hx
    · exact a.nm x hx
    · exact fun z => b.nm x hx (.inl z), fun j a' e => a.sub j a' (b.sub j a' e)⟩
theorem Mid.drop (a : Mid K w Mo L own H σ own1 A1 H1 env1) : Mid K w Mo L own H σ own1 [] H1 env1 :=
  ⟨by rw [ad_nil]; exact a.rs.shrink fun x z => .inl z, a.kp.less (by simp), by simp, a.sub⟩
theorem Mid.rs0 (a : Mid K w Mo L own H σ own1 A1 H1 env1) : RS K w Mo L own1 H1 σ env1 := a.rs.shrink fun x z => .inl z
/-- pending things are not owned by a slot -/
theorem Mid.nn (a : Mid K w Mo L own H σ own1 A1 H1 env1) : ∀ x ∈ A1, ¬ NN Mo own1 x := fun x hx z => by
  rcases z with z | ⟨i, z⟩
  · exact a.nm x hx z
  · exact a.rs.nmo i x z (.inr hx)
theorem Mid.rep (a : Mid K w Mo L own H σ own1 A1 H1 env1) {r : Res} {x : V} {B : List Addr} (h : RR K w (NN (ad Mo A1) own1) H1 r x B) (hb : ∀ x ∈ B, x ∈ A1) : Rep K w (NN Mo own1) H1 r.1 x :=
  h.rep (fun y hy => a.nn y (hb y hy)) fun y z => z.elim (fun z => .inl (.inl z)) .inr
theorem Mid.reps (a : Mid K w Mo L own H σ own1 A1 H1 env1) {r : List Res} {x : List V} (h : RRs K w (NN (ad Mo A1) own1) H1 r x A1) : RepL K w (NN Mo own1) H1 (vals r) x :=
  h.rep (fun y z => z.elim (fun z => .inl (.inl z)) .inr) a.nn
/-- a pending result, later -/
theorem Mid.later (a : Mid K w Mo L own H σ own1 A1 H1 env1) (b : Mid K w (ad Mo A1) L own1 H1 σ own2 A2 H2 env2) {r : Res} {x : V} {B : List Addr} (hb : ∀ x ∈ B, x ∈ A1) (h : RR K w (NN (ad Mo A1) own1) H1 r x B) : RR K w (NN (ad Mo (A1 ++ A2)) own2) H2 r x B := by
  have k := b.kp.kp
  rw [ad_ad] at k
  exact h.kp k fun y hy o e => b.kp.strict y o (.inr (hb y hy)) e
theorem Mid.laters (a : Mid K w Mo L own H σ own1 A1 H1 env1) (b : Mid K w (ad Mo A1) L own1 H1 σ own2 A2 H2 env2) {r : List Res} {x : List V} (h : RRs K w (NN (ad Mo A1) own1) H1 r x A1) : RRs K w (NN (ad Mo (A1 ++ A2)) own2) H2 r x A1 := by
  have k := b.kp.kp
  rw [ad_ad] at k
  exact h.kp k fun y hy o e => b.kp.strict y o (.inr hy) e
/-- a value, later -/
theorem Mid.val (b : Mid K w Mo L own1 H1 σ own2 A2 H2 env2) {v : Val} {x : V} (h : Rep K w (NN Mo own1) H1 v x) : Rep K w (NN Mo own2) H2 v x := by
  have k := b.kp.kp
  exact (h.kp k).kp (.sub fun y z => z.elim (fun z => .inl (.inl z)) .inr)
theorem Mid.vall (b : Mid K w Mo L own1 H1 σ own2 A2 H2 env2) {v : List Val} {x : List V} (h : RepL K w (NN Mo own1) H1 v x) : RepL K w (NN Mo own2) H2 v x := by
  have k := b.kp.kp
  exact (h.kp k).kp (.sub fun y z => z.elim (fun z => .inl (.inl z)) .inr)
/-- a new object -/
theorem upd_keep {p : Addr} {o : HO} (hp : H p = none) : ∀ a u, H a = some u → upd H p o a = some u := fun a u e => by
  rw [upd_ne (ne_of_none e hp)]; exact e
theorem Keep.alloc {p : Addr} {o : HO} (hp : H p = none) : Keep Mo own H own (upd H p o) [p] :=
  ⟨fun u x e n => ⟨⟨x, upd_keep hp u x e, .refl⟩, n⟩, fun u x _ e => upd_keep hp u x e, fun u x e => ⟨x, upd_keep hp u x e⟩, fun a ha => by simp at ha; subst ha; exact .inl hp⟩
theorem Mid.alloc (r : RS K w Mo L own H σ env) {p : Addr} {o : HO} (hp : H p = none) : Mid K w Mo L own H σ own [p] (upd H p o) env := by
  refine ⟨r.grow (upd_keep hp) (fun a z => .inl z) (fun a z => ?_) (fun a z => ?_), .alloc hp, fun a ha z => ?_, fun _ _ e => e⟩
  · rcases z with z | z
    · exact .inl z
    · simp at z; subst z; exact .inr hp
  · rcases z with z | z
    · obtain ⟨u, e⟩ := r.mos a z; exact ⟨u, upd_keep hp a u e⟩
    · simp at z; subst z; exact ⟨o, upd_same⟩
  · simp at ha; subst ha
    obtain ⟨u, e⟩ := r.mos a z
    rw [hp] at e; cases e
end
end Q

end
section
set_option Elab.async false
set_option linter.all false
set_option maxRecDepth 100000
/-! Q: readings of expressions. -/
namespace Q
open PySem PySem.Spec PyProof.Rows L2
def PostE (K : PySem.W.Frag) (w : World) (Mo : AP1) (L : Option Addr) (own : Ow) (H : Hp) (σ : L2.St) (r : Res) (env' : Env) (x : V) (H' : Hp) : Prop :=
  ∃ own' A, Mid K w Mo L own H σ own' A H' env' ∧ RR K w (NN (ad Mo A) own') H' r x A
def PostA (K : PySem.W.Frag) (w : World) (Mo : AP1) (L : Option Addr) (own : Ow) (H : Hp) (σ : L2.St) (r : List Res) (env' : Env) (x : List V) (H' : Hp) : Prop :=
  ∃ own' A, Mid K w Mo L own H σ own' A H' env' ∧ RRs K w (NN (ad Mo A) own') H' r x A ∧ A.Nodup
section
variable (K : PySem.W.Frag) (w : World) (cl : Cl)
def tI (e : E) : TE := fun σ H Q => ∃ Mo L own env r env', RS K w Mo L own H σ env ∧ ev cl e env = some (r, env') ∧ ∀ x H', PostE K w Mo L own H σ r env' x H' → Q x H'
def tIs (e : E) : TA := fun σ H Q => ∃ Mo L own env r env', RS K w Mo L own H σ env ∧ evs cl e env = some (r, env') ∧ ∀ x H', PostA K w Mo L own H σ r env' x H' → Q x H'
def tTt (e : E) : TT := fun σ H Q => ∃ Mo L own env b env', RS K w Mo L own H σ env ∧ boolR (ev cl e env) = some (b, env') ∧ ∀ H' own', Mid K w Mo L own H σ own' [] H' env' → Q b H'
/-- a primitive's result, delivered -/
def DP (N : AP1) (H : Hp) (r : Res) (x : V) (H' : Hp) : Prop :=
  (H' = H ∧ r.2 = false ∧ Rep K w N H r.1 x) ∨ (∃ p o, H p = none ∧ H' = upd H p o ∧ x = .ref p ∧ (if r.2 = true then Own K w (ad N [p]) H' p r.1 else Rep K w N H' r.1 x))
def rBin (f : Val → Val → Option Res) : R2 := fun x y H Q => ∃ N va vb r, (∀ a, N a → ∃ o, H a = some o) ∧ Rep K w N H va x ∧ Rep K w N H vb y ∧ f va vb = some r ∧ ∀ z H', DP K w N H r z H' → Q z H'
def rUn (f : Val → Option Res) : V → Hp → VK → Prop := fun x H Q => ∃ N va r, (∀ a, N a → ∃ o, H a = some o) ∧ Rep K w N H va x ∧ f va = some r ∧ ∀ z H', DP K w N H r z H' → Q z H'
def rAr (f : List Val → Option Res) : List V → Hp → VK → Prop := fun x H Q => ∃ N va r, (∀ a, N a → ∃ o, H a = some o) ∧ RepL K w N H va x ∧ f va = some r ∧ ∀ z H', DP K w N H r z H' → Q z H'
def rMt (f : Val → List Val → Option Res) : V → List V → Hp → VK → Prop := fun o x H Q => ∃ N vo va r, (∀ a, N a → ∃ o, H a = some o) ∧ Rep K w N H vo o ∧ RepL K w N H va x ∧ f vo va = some r ∧ ∀ z H', DP K w N H r z H' → Q z H'
end
theorem _root_.L2.PE.weak {X : Cx} {e : Expr} {t t' : TE} (h : PE X e t) (k : ∀ σ H Q, t' σ H Q → t σ H Q) : PE X e t' := ⟨fun pins s σ H Q I q => h.run pins s σ H Q I (k σ H Q q)⟩
theorem _root_.L2.PT.weak {X : Cx} {e : Expr} {t t' : TT} (h : PT X e t) (k : ∀ σ H Q, t' σ H Q → t σ H Q) : PT X e t' := ⟨fun pins s σ H Q I q => h.run pins s σ H Q I (k σ H Q q)⟩
theorem _root_.L2.PW.weak {X : Cx} {e : Expr} {t t' : TT} (h : PW X e t) (k : ∀ σ H Q, t' σ H Q → t σ H Q) : PW X e t' := ⟨fun wh pins s σ H Q I q => h.run wh pins s σ H Q I (k σ H Q q)⟩
theorem _root_.L2.PA.weak {X : Cx} {e : List Expr} {t t' : TA} (h : PA X e t) (k : ∀ σ H Q, t' σ H Q → t σ H Q) : PA X e t' := ⟨fun pos pins s σ H Q I q => h.run pos pins s σ H Q I (k σ H Q q)⟩
theorem _root_.L2.PS.weak {X : Cx} {e : Stmt} {t t' : TS} (h : PS X e t) (k : ∀ D σ H, t' D σ H → t D σ H) : PS X e t' := ⟨fun pins s σ H D I q => h.run pins s σ H D I (k D σ H q)⟩
theorem _root_.L2.PSs.weak {X : Cx} {e : List Stmt} {t t' : TS} (h : PSs X e t) (k : ∀ D σ H, t' D σ H → t D σ H) : PSs X e t' := ⟨fun pins s σ H D I q => h.run pins s σ H D I (k D σ H q)⟩
section
variable {K : PySem.W.Frag} {w : World} {cl : Cl} {Mo Mo' : AP1} {L : Option Addr} {own own' own1 own2 : Ow} {H H' H1 H2 : Hp} {σ : L2.St} {env env' env1 env2 : Env} {A A1 A2 : List Addr} {r : Res} {x : V}
theorem DP.post (rs : RS K w Mo L own H σ env) (d : DP K w (NN Mo own) H r x H') : PostE K w Mo L own H σ r env x H' := by
  rcases d with ⟨rfl, e, h⟩ | ⟨p, o, hp, rfl, rfl, h⟩
  · refine ⟨own, [], .refl rs, ?_⟩
    obtain ⟨v, b⟩ := r
    cases e
    exact ⟨rfl, by rw [ad_nil]; exact h⟩
  · obtain ⟨v, b⟩ := r
    cases b with
    | true =>
      refine ⟨own, [p], .alloc rs hp, p, rfl, rfl, ?_⟩
      have h : Own K w (ad (NN Mo own) [p]) (upd H p o) p v := by simpa using h
      have e : ad (NN Mo own) [p] = NN (ad Mo [p]) own := by
        funext a; simp only [ad, NN, eq_iff_iff]
        constructor
        · rintro ((z | z) | z)
          · exact .inl (.inl z)
          · exact .inr z
          · exact .inl (.inr z)
        · rintro ((z | z) | z)
          · exact .inl (.inl z)
          · exact .inr z
          · exact .inl (.inr z)
      rwa [e] at h
    | false =>
      have h : Rep K w (NN Mo own) (upd H p o) v (.ref p) := by simpa using h
      exact ⟨own, [], (Mid.alloc rs hp).drop, rfl, by rw [ad_nil]; exact h⟩
/-- a post behind a middle -/
theorem PostE.seq (m : Mid K w Mo L own H σ own1 [] H1 env1) (p : PostE K w Mo L own1 H1 σ r env2 x H2) : PostE K w Mo L own H σ r env2 x H2 := by
  obtain ⟨own', A, m2, h⟩ := p
  refine ⟨own', A, ?_, h⟩
  have m' : Mid K w (ad Mo []) L own1 H1 σ own' A H2 env2 := by rw [ad_nil]; exact m2
  have := m.seq m'
  simpa using this
/-- a plain result -/
theorem PostE.plain (m : Mid K w Mo L own H σ own1 [] H1 env1) {v : Val} (h : Rep K w (NN Mo own1) H1 v x) : PostE K w Mo L own H σ (v, false) env1 x H1 := ⟨own1, [], m, rfl, by rw [ad_nil]; exact h⟩
theorem PostE.mid (p : PostE K w Mo L own H σ r env' x H') : ∃ own', Mid K w Mo L own H σ own' [] H' env' ∧ Rep K w (NN Mo own') H' r.1 x := by
  obtain ⟨own', A, m, h⟩ := p
  refine ⟨own', m.drop, m.rep h ?_⟩
  intro y hy; exact hy
theorem RRsub {N : AP1} {r : Res} {x : V} {A : List Addr} (h : RR K w N H r x A) : True := trivial
theorem PostA.mid {rs : List Res} {xs : List V} (p : PostA K w Mo L own H σ rs env' xs H') : ∃ own', Mid K w Mo L own H σ own' [] H' env' ∧ RepL K w (NN Mo own') H' (vals rs) xs := by
  obtain ⟨own', A, m, h, _⟩ := p
  exact ⟨own', m.drop, m.reps h⟩
/-- one operand -/
theorem tI.one {e e1 : E} {f : Val → Option Res} (hf : ∀ env, ev cl e env = match ev cl e1 env with | some (x, env) => mk (f x.1) env | none => none) :
    ∀ σ H Q, tI K w cl e σ H Q → tUn (rUn K w f) (tI K w cl e1) σ H Q := by
  rintro σ H Q ⟨Mo, L, own, env, r, env', rs, e, q⟩
  rw [hf] at e
  split at e
  · rename_i x env1 e1
    refine ⟨Mo, L, own, env, x, env1, rs, e1, fun x1 H1 p => ?_⟩
    obtain ⟨own1, m, h⟩ := p.mid
    unfold mk at e
    split at e
    · rename_i r' er
      cases e
      exact ⟨NN Mo own1, x.1, r, fun a z => m.rs0.nn_some z, h, er, fun z H' d => q z H' (.seq m (d.post m.rs0))⟩
    · cases e
  · cases e
/-- two operands -/
theorem tI.two {e e1 e2 : E} {f : Val → Val → Option Res} (hf : ∀ env, ev cl e env = match ev cl e1 env with
      | some (x, env) => match ev cl e2 env with
        | some (y, env) => mk (f x.1 y.1) env
        | none => none
      | none => none) :
    ∀ σ H Q, tI K w cl e σ H Q → tOp (rBin K w f) (tI K w cl e1) (tI K w cl e2) σ H Q := by
  rintro σ H Q ⟨Mo, L, own, env, r, env', rs, e, q⟩
  rw [hf] at e
  split at e
  · rename_i x env1 e1
    split at e
    · rename_i y env2 e2
      refine ⟨Mo, L, own, env, x, env1, rs, e1, fun x1 H1 p => ?_⟩
      obtain ⟨own1, m, h⟩ := p.mid
      refine ⟨Mo, L, own1, env1, y, env2, m.rs0, e2, fun y1 H2 p2 => ?_⟩
      obtain ⟨own2, m2, h2⟩ := p2.mid
      have m3 : Mid K w Mo L own H σ own2 [] H2 env2 := by
        have := m.seq (by rw [ad_nil]; exact m2)
        simpa using this
      unfold mk at e
      split at e
      · rename_i r' er
        cases e
        exact ⟨NN Mo own2, x.1, y.1, r, fun a z => m3.rs0.nn_some z, m2.val h, h2, er, fun z H' d => q z H' (.seq m3 (d.post m3.rs0))⟩
      · cases e
    · cases e
  · cases e
/-- a test's reading from a value's -/
theorem tTt.val {e : E} {σ : L2.St} {H : Hp} {Q : Bool → Hp → Prop} (h : tTt K w cl e σ H Q) : tI K w cl e σ H (fun x H' => ∃ k, x = .bl k ∧ Q k H') := by
  obtain ⟨Mo, L, own, env, b, env', rs, e, q⟩ := h
  unfold boolR at e
  split at e
  · rename_i b' f env2 e2
    cases e
    refine ⟨Mo, L, own, env, _, _, rs, e2, fun x H' p => ?_⟩
    obtain ⟨own1, m, h⟩ := p.mid
    simp only [Rep] at h
    exact ⟨b, h, q H' own1 m⟩
  · cases e
theorem Mid.two (m : Mid K w Mo L own H σ own1 [] H1 env1) (m2 : Mid K w Mo L own1 H1 σ own2 [] H2 env2) : Mid K w Mo L own H σ own2 [] H2 env2 := by
  have := m.seq (by rw [ad_nil]; exact m2)
  simpa using this
end
section
variable {X : Cx} {cl : Cl} {a b c : Expr} {ia ib ic : E} {pos : Pos}
theorem s_const {v : Val} {e : Expr} {y : V} (h : PE X e (tC y)) (hv : ∀ N H, Rep X.K X.w N H v y) : PE X e (tI X.K X.w cl (.const v)) := by
  refine h.weak ?_
  rintro σ H Q ⟨Mo, L, own, env, r, env', rs, e, q⟩
  simp only [ev, Option.some.injEq, Prod.mk.injEq] at e
  obtain ⟨rfl, rfl⟩ := e
  exact q y H (.plain (.refl rs) (hv _ _))
theorem s_bin {op : Operator} {o : Op} (ho : OpR X (binaryOp op) (rBin X.K X.w (bin o))) (ha : PE X a (tI X.K X.w cl ia)) (hb : PE X b (tI X.K X.w cl ib)) : PE X (.BinOp a op b pos) (tI X.K X.w cl (.bin o ia ib)) :=
  (pe_op ho ha hb).weak (tI.two fun env => by simp only [ev] <;> rfl)
theorem s_cmp {op : CmpOp} {o : Cm} (ho : OpR X (compareOp op) (rBin X.K X.w fun x y => bR (cmpv o x y))) (ha : PE X a (tI X.K X.w cl ia)) (hb : PE X b (tI X.K X.w cl ib)) (hm : behindInMarks op b = false) :
    PE X (.Compare a [op] [b] pos) (tI X.K X.w cl (.cmp o ia ib)) :=
  (pe_cmpR ho ha hb hm).weak (tI.two fun env => by simp only [ev] <;> rfl)
theorem s_cmpT {op : CmpOp} {o : Cm} (ho : OpR X (compareOp op) (rBin X.K X.w fun x y => bR (cmpv o x y))) (ha : PE X a (tI X.K X.w cl ia)) (hb : PE X b (tI X.K X.w cl ib)) (hm : behindInMarks op b = false) :
    PT X (.Compare a [op] [b] pos) (tTt X.K X.w cl (.cmp o ia ib)) :=
  (pt_cmpR ho ha hb hm).weak fun σ H Q h => tI.two (e := .cmp o ia ib) (f := fun x y => bR (cmpv o x y)) (fun env => by simp only [ev] <;> rfl) σ H _ (tTt.val h)
end
end Q

end
section
set_option Elab.async false
set_option linter.all false
set_option maxRecDepth 100000
/-! Q: operators. -/
namespace Q
open PySem PySem.Spec PyProof.Rows L2
theorem sizeL : sizeLine = 16777216 := by decide
section
variable {K : PySem.W.Frag} {w : World} {N : AP1} {H : Hp} {v : Val} {x : V}
theorem DP.flat {v : Val} {b : V} (h : Rep K w N H v b) : DP K w N H (v, false) b H := .inl ⟨rfl, rfl, h⟩
theorem rep_int {i : Int} : Rep K w N H (.int i) (.int i) := by simp [Rep]
theorem rep_bool {i : Bool} : Rep K w N H (.bool i) (.bl i) := by simp [Rep]
theorem rep_str {i : Str} : Rep K w N H (.str i) (.str i) := by simp [Rep]
theorem rep_none : Rep K w N H .none .non := by simp [Rep]
theorem Rep.int {i : Int} (h : Rep K w N H (.int i) x) : x = .int i := by simpa [Rep] using h
theorem Rep.bool {i : Bool} (h : Rep K w N H (.bool i) x) : x = .bl i := by simpa [Rep] using h
theorem Rep.str {i : Str} (h : Rep K w N H (.str i) x) : x = .str i := by simpa [Rep] using h
theorem Rep.none (h : Rep K w N H .none x) : x = .non := by simpa [Rep] using h
theorem Rep.lst {l : List Val} (h : Rep K w N H (.lst l) x) : ∃ a xs, x = .ref a ∧ H a = some (.lst xs) ∧ ¬ N a ∧ l.length ≤ sizeLine ∧ RepL K w N H l xs := by simpa [Rep] using h
theorem Rep.tup {l : List Val} (h : Rep K w N H (.tup l) x) : ∃ a xs, x = .ref a ∧ TupAt K N H a xs ∧ l.length ≤ sizeLine ∧ RepL K w N H l xs := by simpa [Rep] using h
theorem Rep.scr {l : List Val} (h : Rep K w N H (.scr l) x) : ∃ a xs, x = .ref a ∧ LstAt K N H a xs ∧ l.length ≤ sizeLine ∧ RepL K w N H l xs := by simpa [Rep] using h
theorem Rep.dict {ks : List Key} {vs : List Val} (h : Rep K w N H (.dict ks vs) x) : ∃ a ys, x = .ref a ∧ Rd H a (.dK ys) ∧ ¬ N a ∧ ys.map (·.1) = ks ∧ RepL K w N H vs (ys.map (·.2)) := by simpa [Rep] using h
/-- new lists, tuples delivered -/
theorem DP.newL {l : List Val} {xs : List V} {p : Addr} (hp : H p = none) (r : RepL K w N H l xs) (z : l.length ≤ sizeLine) : DP K w N H (.lst l, true) (.ref p) (upd H p (.lst xs)) := by
  refine .inr ⟨p, _, hp, rfl, rfl, ?_⟩
  simp only [if_true]
  refine ⟨xs, upd_same, z, r.kp fun a o e n => ⟨⟨o, upd_keep hp a o e, .refl⟩, ?_⟩⟩
  rintro (h | h)
  · exact n h
  · simp at h; subst h; rw [hp] at e; cases e
theorem DP.newT {l : List Val} {xs : List V} {p : Addr} (hN : ∀ a, N a → ∃ o, H a = some o) (hp : H p = none) (r : RepL K w N H l xs) (z : l.length ≤ sizeLine) : DP K w N H (.tup l, false) (.ref p) (upd H p (.tup xs)) := by
  refine .inr ⟨p, _, hp, rfl, rfl, ?_⟩
  simp only [Rep, Bool.false_eq_true, if_false]
  refine ⟨p, xs, rfl, .inl ⟨.inl upd_same, fun h => ?_⟩, z, r.kp fun a o e n => ⟨⟨o, upd_keep hp a o e, .refl⟩, n⟩⟩
  obtain ⟨o, e⟩ := hN p h
  rw [hp] at e; cases e
theorem DP.newD {ks : List Key} {l : List Val} {ys : List (Key × V)} {p : Addr} (hp : H p = none) (e : ys.map (·.1) = ks) (r : RepL K w N H l (ys.map (·.2))) : DP K w N H (.dict ks l, true) (.ref p) (upd H p (.dK ys)) := by
  refine .inr ⟨p, _, hp, rfl, rfl, ?_⟩
  simp only [if_true]
  refine ⟨ys, upd_same, e, r.kp fun a o e n => ⟨⟨o, upd_keep hp a o e, .refl⟩, ?_⟩⟩
  rintro (h | h)
  · exact n h
  · simp at h; subst h; rw [hp] at e; cases e
end
section
variable {X : Cx}
theorem okMul_ok {i j : Int} (h : okMul i j = true) : CMul i j := by
  unfold okMul at h
  simp only [Bool.or_eq_true, decide_eq_true_eq] at h
  unfold CMul
  rcases h with h | h
  · left; constructor <;> omega
  · right; constructor <;> omega
theorem bits_ok {i : Int} (h : 0 ≤ i) : Builtin.Int.intBits i = bits i.toNat := by
  unfold Builtin.Int.intBits bits
  by_cases e : i = 0
  · subst e; rfl
  · have h1 : ¬ i.toNat = 0 := by omega
    have h2 : i.natAbs = i.toNat := by omega
    simp [e, h1, h2]
theorem o_binI {op : Operator} {o : Op} (ho : opOf op = some o) {i j k : Int} (h : binI o i j = some k) {pins : List (Addr × Obj)} {s : Shared} {σ : L2.St} {H : Hp} {v u : Value} {Q : VK} (I : Inv X pins σ H s) (rx : RelV (.int i) v) (ry : RelV (.int j) u) (q : Q (.int k) H) :
    wpAny (model X.prog X.w) X.A (binaryOp op v u) (EP X pins σ Q) X.xe s := by
  cases op <;> simp only [opOf, Option.some.injEq, reduceCtorEq] at ho <;> subst ho <;> simp only [binI] at h
  · cases h; exact op_add pins s σ H _ _ v u Q I rx ry ⟨i, j, rfl, rfl, q⟩
  · cases h; exact op_sub pins s σ H _ _ v u Q I rx ry ⟨i, j, rfl, rfl, q⟩
  · split at h
    · rename_i hm; cases h; exact op_mul pins s σ H _ _ v u Q I rx ry ⟨i, j, rfl, rfl, okMul_ok hm, q⟩
    · cases h
  · split at h
    · rename_i hm; cases h; exact op_modN pins s σ H _ _ v u Q I rx ry ⟨i, j, rfl, rfl, hm, q⟩
    · cases h
  · split at h
    · rename_i hm; cases h
      refine op_pow pins s σ H _ _ v u Q I rx ry ⟨i, j, rfl, rfl, ⟨hm.1, hm.2.1, hm.2.2⟩, q⟩
    · cases h
  · split at h
    · rename_i hm; cases h
      refine op_shlW pins s σ H _ _ v u Q I rx ry ⟨i, j, rfl, rfl, ⟨hm.2.1, ?_⟩, ?_⟩
      · rw [bits_ok hm.1]
        have := hm.2.2
        have h3 : (2 : Int) ^ 27 = 134217728 := by decide
        rw [h3]; omega
      · have e : i * 2 ^ j.toNat = ((i.toNat * 2 ^ j.toNat : Nat) : Int) := by
          rw [Int.natCast_mul, Int.natCast_pow, Int.toNat_of_nonneg hm.1]; rfl
        show Q (V.int (i * 2 ^ j.toNat)) H
        rw [e]; exact q
    · cases h
  · split at h
    · rename_i hm; cases h
      refine op_shr pins s σ H _ _ v u Q I rx ry ⟨i, j, rfl, rfl, hm.2, ?_⟩
      have e : i / 2 ^ j.toNat = ((i.toNat / 2 ^ j.toNat : Nat) : Int) := by
        rw [Int.natCast_ediv, Int.natCast_pow, Int.toNat_of_nonneg hm.1]; rfl
      show Q (V.int (i / 2 ^ j.toNat)) H
      rw [e]; exact q
    · cases h
  · split at h
    · rename_i hm; cases h
      refine op_or pins s σ H _ _ v u Q I rx ry ⟨i, j, rfl, rfl, ?_⟩
      show Q (V.int (Builtin.bitOr i j)) H
      rw [bitOr_nn hm.1 hm.2]; exact q
    · cases h
  · split at h
    · rename_i hm; cases h
      refine op_and pins s σ H _ _ v u Q I rx ry ⟨i, j, rfl, rfl, ?_⟩
      have e : Builtin.bitAnd i j = ((i.toNat &&& j.toNat : Nat) : Int) := by
        unfold Builtin.bitAnd
        rw [decide_eq_true hm.1, decide_eq_true hm.2]
      show Q (V.int (Builtin.bitAnd i j)) H
      rw [e]; exact q
    · cases h
  · split at h
    · rename_i hm; cases h; exact op_fdivN pins s σ H _ _ v u Q I rx ry ⟨i, j, rfl, rfl, hm, q⟩
    · cases h
theorem tuple_mul1W (l : Addr) (items : Array Value) (n : Nat) (dd : Option Addr) (sl : Array (Option Value)) (u : Tok) (hi : items.isEmpty = false) :
    Meets (Builtin.«tuple.__mul__» ⟨[.ref l, .int 1 u], []⟩) (fun _ R s => s.heap.get? l = some { cls := .type "tuple", dict := dd, data := .seq items n, slots := sl } ∧
      R (.ok (.ret (Value.ref l))) s) :=
  .of_wp fun prog w A R s h => by
    obtain ⟨hp, g, d, tk, os⟩ := s
    obtain ⟨hl, h⟩ := h
    have f1 := AutoSeq1.idx_int
    have c0 : (decide ((1 : Int) < -(2 ^ 63)) || decide ((1 : Int) ≥ 2 ^ 63)) = false := by decide
    have c1 : (items.isEmpty || (1 : Int) == 1) = true := by rw [hi]; rfl
    wp_walk using wpAny_loadPart' hl
    repeat (first
      | (refine wpAny_ite_false (decide_eq_false (by rw [c0]; exact Bool.false_ne_true)) ?_; wp_walk using wpAny_loadPart' hl)
      | (refine wpAny_ite_true (decide_eq_true c1) ?_; wp_walk using wpAny_loadPart' hl))
    exact ⟨_, rfl, h⟩
/-- t * 1 -/
theorem tup_mul1 {pins : List (Addr × Obj)} {s : Shared} {σ : L2.St} {H : Hp} {l : Addr} {xs : List V} {t : Tok} {Q : VK} (I : Inv X pins σ H s) (hT : SqT X.K H l xs) (hne : xs ≠ []) (q : Q (.ref l) H) :
    wpAny (model X.prog X.w) X.A (binaryOp .Mult (.ref l) (.int 1 t)) (EP X pins σ Q) X.xe s := by
  obtain ⟨its, r, ⟨⟨cls, dd, data, sl⟩, ho, hc, n, hd⟩, hs⟩ := I.tuple hT
  simp only at hc hd
  subst hc hd
  have hle : its.length = xs.length := r.length.symm
  have hn : its ≠ [] := fun e => hne (by
    rw [e] at hle
    exact List.eq_nil_of_length_eq_zero hle.symm)
  have hi : its.toArray.isEmpty = false := by
    cases its with
    | nil => exact absurd rfl hn
    | cons a b => rfl
  refine wpAny_binaryOp_repeat_ref (T := "tuple") (U := "int") (by decide) ⟨_, ho, rfl⟩ (fun s' => typeIs_int s' 1 t) noFill_tuple_mul F.fills_int_mul F.slot_int_rmul repeat_tuple F.slot_int_index.lookup
    (call_meets F.slot_int_rmul (typeIs_int s 1 t) F.entry_int_rmul (F.args_int_rmul_2 _ _) (int_rmul_tuple 1 t l its.toArray n dd sl)
      ⟨ho, rfl, ⟨_, ho, rfl⟩, call_meets F.slot_tuple_mul ⟨_, ho, rfl⟩ F.entry_tuple_mul (F.args_tuple_mul_2 _ _) (tuple_mul1W l its.toArray n dd sl t hi) ⟨ho, ?_⟩⟩)
  exact ⟨.ref l, H, I, rfl, q⟩
theorem o_bin {op : Operator} {o : Op} (ho : opOf op = some o) : OpR X (binaryOp op) (rBin X.K X.w (bin o)) := by
  rintro pins s σ H x y v u Q I rx ry ⟨N, va, vb, r, hN, ra, rb, e, q⟩
  unfold bin at e
  split at e
  · -- ints
    split at e
    · rename_i k ek
      cases e
      rw [ra.int] at rx; rw [rb.int] at ry
      exact o_binI ho ek I rx ry (q _ _ (.flat rep_int))
    · cases e
  · rename_i l m
    obtain ⟨a, xs, rfl, ha, na, za, qa⟩ := ra.lst
    obtain ⟨b, ys, rfl, hb, nb, zb, qb⟩ := rb.lst
    cases op <;> simp only [opOf, Option.some.injEq, reduceCtorEq] at ho <;> subst ho <;> simp only [reduceCtorEq] at e
    split at e
    · rename_i hz
      cases e
      have hz : l.length + m.length ≤ 16777216 := by simpa [okLen] using hz
      refine op_cat pins s σ H _ _ v u Q I rx ry ⟨a, b, xs, ys, rfl, rfl, ha, hb, by rw [qa.length, qb.length, sizeL]; exact hz, fun p hp => q _ _ (.newL hp (qa.append qb) ?_)⟩
      rw [List.length_append, sizeL]; exact hz
    · cases e
  · rename_i l m
    obtain ⟨a, xs, rfl, ha, za, qa⟩ := ra.tup
    obtain ⟨b, ys, rfl, hb, zb, qb⟩ := rb.tup
    cases op <;> simp only [opOf, Option.some.injEq, reduceCtorEq] at ho <;> subst ho <;> simp only [reduceCtorEq] at e
    split at e
    · rename_i hz
      cases e
      have hz : l.length + m.length ≤ 16777216 := by simpa [okLen] using hz
      have la := qa.length
      have lb := qb.length
      refine op_catA pins s σ H _ _ v u Q I rx ry ⟨a, b, xs, ys, rfl, rfl, ha.sq, hb.sq, by rw [la, lb, sizeL]; exact hz, fun h => ?_, fun h1 h2 => ?_, fun h1 h2 p hp => q _ _ (.newT hN hp (qa.append qb) (by rw [List.length_append, sizeL]; exact hz))⟩
      · subst h
        have : l = [] := List.eq_nil_of_length_eq_zero la.symm
        subst this
        refine q _ _ (.flat ?_)
        simp only [Rep, List.nil_append]
        exact ⟨b, ys, rfl, hb, zb, qb⟩
      · subst h2
        have : m = [] := List.eq_nil_of_length_eq_zero lb.symm
        subst this
        refine q _ _ (.flat ?_)
        simp only [Rep, List.append_nil]
        exact ⟨a, xs, rfl, ha, za, qa⟩
    · cases e
  · rename_i l m
    have e1 := ra.str; subst e1
    have e2 := rb.str; subst e2
    cases op <;> simp only [opOf, Option.some.injEq, reduceCtorEq] at ho <;> subst ho <;> simp only [reduceCtorEq] at e
    split at e
    · rename_i hz
      cases e
      have hz : l.length + m.length ≤ 16777216 := by simpa [okLen] using hz
      exact op_add_str pins s σ H _ _ v u Q I rx ry ⟨l, m, rfl, rfl, by rw [sizeL]; exact hz, q _ _ (.flat rep_str)⟩
    · cases e
  · rename_i l k
    obtain ⟨a, xs, rfl, ha, na, za, qa⟩ := ra.lst
    have e2 := rb.int; subst e2
    cases op <;> simp only [opOf, Option.some.injEq, reduceCtorEq] at ho <;> subst ho <;> simp only [reduceCtorEq] at e
    split at e
    · rename_i hz
      cases e
      have la := qa.length
      have hr : RepL X.K X.w N H (List.replicate k.toNat l).flatten (List.replicate k.toNat xs).flatten := by
        generalize k.toNat = n
        induction n with
        | zero => exact RepL.nil
        | succ n ih => rw [List.replicate_succ, List.replicate_succ, List.flatten_cons, List.flatten_cons]; exact qa.append ih
      refine op_rep pins s σ H _ _ v u Q I rx ry ⟨a, k, xs, rfl, rfl, ha, by omega, by omega, by rw [la, sizeL]; exact hz.2, fun p hp => q _ _ (.newL hp hr ?_)⟩
      rw [PyProof.Rows.lm_len_rep_flat, sizeL, Nat.mul_comm]; exact hz.2
    · cases e
  · rename_i l k
    obtain ⟨a, xs, rfl, ha, za, qa⟩ := ra.tup
    have e2 := rb.int; subst e2
    cases op <;> simp only [opOf, Option.some.injEq, reduceCtorEq] at ho <;> subst ho <;> simp only [reduceCtorEq] at e
    split at e
    · rename_i hz
      cases e
      obtain ⟨h1, h2, h3, h4⟩ := hz
      have la := qa.length
      have hx : xs ≠ [] := by
        rintro rfl
        cases l with
        | nil => simp at h4
        | cons _ _ => simp at la
      have hr : RepL X.K X.w N H (List.replicate k.toNat l).flatten (List.replicate k.toNat xs).flatten := by
        generalize k.toNat = n
        induction n with
        | zero => exact RepL.nil
        | succ n ih => rw [List.replicate_succ, List.replicate_succ, List.flatten_cons, List.flatten_cons]; exact qa.append ih
      by_cases hk : k = 1
      · subst hk
        obtain rfl : v = .ref a := rx
        obtain ⟨t, rfl⟩ := ry
        refine tup_mul1 I ha.sq hx (q _ _ (.flat ?_))
        simp only [Rep]
        refine ⟨a, xs, rfl, ha, ?_, ?_⟩
        · simpa using za
        · simpa using qa
      · refine op_repT pins s σ H _ _ v u Q I rx ry ⟨a, k, xs, rfl, rfl, ha.sq, hx, by omega, h2, by rw [la]; exact h3, fun p hp => q _ _ (.newT hN hp hr ?_)⟩
        rw [PyProof.Rows.lm_len_rep_flat, sizeL]
        have : k.toNat * l.length ≤ 1000 * 1000 := Nat.mul_le_mul (by omega) h3
        omega
    · cases e
  · cases e
end
end Q

end
section
set_option Elab.async false
set_option linter.all false
set_option maxRecDepth 100000
/-! Q: comparisons, indexes. -/
namespace Q
open PySem PySem.Spec PyProof.Rows L2
/-! ### data -/
mutual
def toD : Val → PyData
  | .none => .none
  | .bool b => .bool b
  | .int i => .int i
  | .str x => .str x
  | .tup l => .tuple (toDs l)
  | .lst l => .list (toDs l)
  | _ => .none
def toDs : List Val → List PyData
  | [] => []
  | v :: l => toD v :: toDs l
end
mutual
theorem veq_eqv : ∀ (n m : Nat) (a b : Val), dat n a = true → dat m b = true → PyData.eqv (toD a) (toD b) = veq a b
  | n, m, a, b, ha, hb => by
    cases a <;> cases b <;> simp only [toD, PyData.eqv, veq] <;> (try rfl) <;> (try (cases n <;> cases m <;> simp [dat] at ha hb; done))
    · cases n <;> cases m <;> simp only [dat, Bool.false_eq_true] at ha hb
      exact veq_eqvL _ _ _ _ ha hb
    · cases n <;> cases m <;> simp only [dat, Bool.false_eq_true] at ha hb
      exact veq_eqvL _ _ _ _ ha hb
termination_by n m a => (sizeOf a, 0)
theorem veq_eqvL : ∀ (n m : Nat) (a b : List Val), a.all (dat n) = true → b.all (dat m) = true → PyData.eqvAll (toDs a) (toDs b) = veqL a b
  | _, _, [], [], _, _ => rfl
  | _, _, [], _ :: _, _, _ => rfl
  | _, _, _ :: _, [], _, _ => rfl
  | n, m, x :: a, y :: b, ha, hb => by
    simp only [List.all_cons, Bool.and_eq_true] at ha hb
    simp only [toDs, PyData.eqvAll, veqL]
    rw [veq_eqv n m x y ha.1 hb.1, veq_eqvL n m a b ha.2 hb.2]
termination_by n m a => (sizeOf a, 0)
end
mutual
theorem dat_ok : ∀ (n : Nat) (a : Val), dat n a = true → (toD a).canLay0 = true ∧ (toD a).depth ≤ n
  | n, a, h => by
    cases a <;> simp only [toD, PyData.canLay0, PyData.depth]
    · exact ⟨trivial, Nat.zero_le _⟩
    · exact ⟨trivial, Nat.zero_le _⟩
    · exact ⟨trivial, Nat.zero_le _⟩
    · cases n <;> simp only [dat] at h <;> exact ⟨h, Nat.zero_le _⟩
    · cases n with
      | zero => simp [dat] at h
      | succ n =>
        simp only [dat] at h
        obtain ⟨h1, h2⟩ := dat_okL n _ h
        exact ⟨h1, by omega⟩
    · cases n with
      | zero => simp [dat] at h
      | succ n =>
        simp only [dat] at h
        obtain ⟨h1, h2⟩ := dat_okL n _ h
        exact ⟨h1, by omega⟩
    · cases n <;> simp [dat] at h
    · cases n <;> simp [dat] at h
    · cases n <;> simp [dat] at h
termination_by n a => (sizeOf a, 0)
theorem dat_okL : ∀ (n : Nat) (a : List Val), a.all (dat n) = true → PyData.canLayAll0 (toDs a) = true ∧ PyData.depthAll (toDs a) ≤ n
  | _, [], _ => ⟨rfl, Nat.zero_le _⟩
  | n, x :: a, h => by
    simp only [List.all_cons, Bool.and_eq_true] at h
    obtain ⟨h1, h2⟩ := dat_ok n x h.1
    obtain ⟨h3, h4⟩ := dat_okL n a h.2
    simp only [toDs, PyData.canLayAll0, PyData.depthAll, Bool.and_eq_true]
    exact ⟨⟨h1, h3⟩, by omega⟩
termination_by n a => (sizeOf a, 0)
end
section
variable {K : PySem.W.Frag} {w : World} {N : AP1} {H : Hp}
mutual
theorem dat_Dp : ∀ (n : Nat) (a : Val) (x : V), dat n a = true → Rep K w N H a x → Dp K H x (toD a)
  | n, a, x, h, r => by
    cases a <;> simp only [toD]
    · rw [r.none]; exact .non
    · rw [r.bool]; exact .bl _
    · rw [r.int]; exact .int _
    · rw [r.str]; exact .str _
    · obtain ⟨a, xs, rfl, ha, z, q⟩ := r.tup
      cases n <;> simp only [dat, Bool.false_eq_true] at h
      exact .tup ha.sq (dat_DpL _ _ _ h q)
    · obtain ⟨a, xs, rfl, ha, na, z, q⟩ := r.lst
      cases n <;> simp only [dat, Bool.false_eq_true] at h
      exact .lst (SqL.of ha) (dat_DpL _ _ _ h q)
    · cases n <;> simp [dat] at h
    · cases n <;> simp [dat] at h
    · cases n <;> simp [dat] at h
termination_by n a => (sizeOf a, 0)
theorem dat_DpL : ∀ (n : Nat) (a : List Val) (x : List V), a.all (dat n) = true → RepL K w N H a x → DpAll K H x (toDs a)
  | _, [], x, _, r => by simp only [RepL] at r; subst r; exact .nil
  | n, v :: a, x, h, r => by
    simp only [List.all_cons, Bool.and_eq_true] at h
    simp only [RepL] at r
    obtain ⟨y, ys, rfl, r1, r2⟩ := r
    exact .cons (dat_Dp n v y h.1 r1) (dat_DpL n a ys h.2 r2)
termination_by n a => (sizeOf a, 0)
end
theorem shaped8 {v : Val} (h : dat8 v = true) : SeqAt.shaped (toD v) = true := by
  obtain ⟨h1, h2⟩ := dat_ok 8 v h
  unfold SeqAt.shaped
  rw [h1, Bool.true_and]
  exact decide_eq_true (by omega)
theorem flat_V {v : Val} {x : V} (h : flat v = true) (r : Rep K w N H v x) : flatV x = true := by
  cases v <;> simp only [flat, Bool.false_eq_true] at h
  · rw [r.none]; rfl
  · rw [r.bool]; rfl
  · rw [r.int]; rfl
  · rw [r.str]; rfl
theorem flat_eq {v u : Val} {x y : V} (h : flat v = true) (k : flat u = true) (r : Rep K w N H v x) (q : Rep K w N H u y) : eqV x y = veq v u := by
  cases v <;> simp only [flat, Bool.false_eq_true] at h <;> cases u <;> simp only [flat, Bool.false_eq_true] at k <;>
    (first | rw [r.none] | rw [r.bool] | rw [r.int] | rw [r.str]) <;> (first | rw [q.none] | rw [q.bool] | rw [q.int] | rw [q.str]) <;> simp only [eqV, veq]
theorem flat_all : ∀ {l : List Val} {xs : List V}, l.all flat = true → RepL K w N H l xs → xs.all flatV = true
  | [], xs, h, r => by simp only [RepL] at r; subst r; rfl
  | v :: l, xs, h, r => by
    simp only [RepL] at r
    obtain ⟨x, ys, rfl, r1, r2⟩ := r
    simp only [List.all_cons, Bool.and_eq_true] at h ⊢
    exact ⟨flat_V h.1 r1, flat_all h.2 r2⟩
theorem flat_any {u : Val} {y : V} (hu : flat u = true) (q : Rep K w N H u y) : ∀ {l : List Val} {xs : List V}, l.all flat = true → RepL K w N H l xs → L2.inV y xs = l.any fun z => veq z u
  | [], xs, h, r => by simp only [RepL] at r; subst r; rfl
  | v :: l, xs, h, r => by
    simp only [RepL] at r
    obtain ⟨x, ys, rfl, r1, r2⟩ := r
    simp only [List.all_cons, Bool.and_eq_true] at h
    have ih := flat_any hu q h.2 r2
    unfold L2.inV at ih ⊢
    rw [List.any_cons, List.any_cons, ih, flat_eq h.1 hu r1 q]
theorem look_valV : ∀ {ks : List Key} {vs : List Val} {ys : List (Key × V)} (k : Key), ys.map (·.1) = ks → RepL K w N H vs (ys.map (·.2)) →
    (∀ v, look ks vs k = some v → ∃ x, valV ys k = some x ∧ Rep K w N H v x) ∧ (look ks vs k = none → valV ys k = none)
  | ks, vs, [], k, e, r => by
    simp at e; subst e
    exact ⟨fun v h => (by simp [look] at h), fun _ => rfl⟩
  | ks, vs, (k', x) :: ys, k, e, r => by
    cases vs with
    | nil => simp [RepL] at r
    | cons v vs =>
      simp only [List.map_cons] at e r
      subst e
      simp only [RepL, List.cons.injEq] at r
      obtain ⟨x', ys', ⟨rfl, rfl⟩, r1, r2⟩ := r
      have ih := look_valV (ks := ys.map (·.1)) k rfl r2
      by_cases hk : k' = k
      · subst hk
        rw [valV_pos rfl]
        simp only [look, if_true]
        exact ⟨fun u h => by cases h; exact ⟨x, rfl, r1⟩, fun h => by cases h⟩
      · rw [valV_neg hk]
        simp only [look, hk, if_false]
        exact ih
theorem asKey_kV {v : Val} {k : Key} {x : V} (h : asKey v = some k) (r : Rep K w N H v x) : x = kV k := by
  cases v <;> simp only [asKey, reduceCtorEq] at h
  · cases h; rw [r.int]; rfl
  · cases h; rw [r.str]; rfl
end
section
variable {X : Cx}
theorem RelV.ref {a : Addr} {u : Value} (r : RelV (.ref a) u) : u = .ref a := r
/-- what stands in a slot: shared, or owned -/
def SlotV (K : PySem.W.Frag) (w : World) (N : AP1) (H : Hp) (v : Val) (x : V) : Prop := Rep K w N H v x ∨ ∃ a, x = .ref a ∧ Own K w N H a v
section
variable {K : PySem.W.Frag} {w : World} {N : AP1} {H : Hp} {x : V}
theorem SlotV.lst {l : List Val} (h : SlotV K w N H (.lst l) x) : ∃ a xs, x = .ref a ∧ H a = some (.lst xs) ∧ l.length ≤ sizeLine ∧ RepL K w N H l xs := by
  rcases h with h | ⟨a, rfl, xs, e, z, r⟩
  · obtain ⟨a, xs, e, ha, na, z, r⟩ := h.lst; exact ⟨a, xs, e, ha, z, r⟩
  · exact ⟨a, xs, rfl, e, z, r⟩
theorem SlotV.dict {ks : List Key} {vs : List Val} (h : SlotV K w N H (.dict ks vs) x) : ∃ a ys, x = .ref a ∧ Rd H a (.dK ys) ∧ ys.map (·.1) = ks ∧ RepL K w N H vs (ys.map (·.2)) := by
  rcases h with h | ⟨a, rfl, ys, e, z, r⟩
  · obtain ⟨a, ys, e, ha, na, z, r⟩ := h.dict; exact ⟨a, ys, e, ha, z, r⟩
  · exact ⟨a, ys, rfl, .inl e, z, r⟩
theorem SlotV.rep {v : Val} (h : SlotV K w N H v x) (h1 : ∀ l, v ≠ .lst l) (h2 : ∀ ks vs, v ≠ .dict ks vs) : Rep K w N H v x := by
  rcases h with h | ⟨a, rfl, o⟩
  · exact h
  · cases v with
    | lst l => exact absurd rfl (h1 l)
    | dict ks vs => exact absurd rfl (h2 ks vs)
    | _ => exact o.elim
end
/-- a reading where the second operand stands in a slot; no new object -/
def rInS (K : PySem.W.Frag) (w : World) (f : Val → Val → Option Bool) : R2 := fun x y H Q => ∃ N va vb k, Rep K w N H va x ∧ SlotV K w N H vb y ∧ f va vb = some k ∧ Q (.bl k) H
theorem o_inS (hu : X.A.units + 64 < cLine) (neg : Bool) : OpR X (compareOp (if neg then .NotIn else .In)) (rInS X.K X.w fun x y => (inV x y).map fun k => if neg then !k else k) := by
  rintro pins s σ H x y v u Q I rx ry ⟨N, va, vb, r, ra, rb, e, q⟩
  have key : ∃ k, inV va vb = some k ∧ r = (if neg then !k else k) := by
    have e : (inV va vb).map (fun k => if neg then !k else k) = some r := e
    cases h : inV va vb with
    | none => rw [h] at e; cases e
    | some k => rw [h] at e; cases e; exact ⟨k, rfl, rfl⟩
  obtain ⟨k, ek, rfl⟩ := key
  have seq : ∀ {l : List Val} {xs : List V} {p : Addr}, y = .ref p → (SqL X.K H p xs ∨ SqT X.K H p xs) → RepL X.K X.w N H l xs → inL va l = some k → wpAny (model X.prog X.w) X.A (compareOp (if neg then .NotIn else .In) v u) (EP X pins σ Q) X.xe s := by
    intro l xs p ey hs rl el
    unfold inL at el
    split at el
    · rename_i hf
      simp only [Bool.and_eq_true] at hf
      cases el
      have h2 : rIn X.K neg x y H Q := ⟨p, xs, ey, hs, flat_V hf.1 ra, flat_all hf.2 rl, by rw [flat_any hf.1 ra hf.2 rl]; exact q⟩
      cases neg
      · exact op_in_seq pins s σ H x y v u Q I rx ry h2
      · exact op_notIn_seq pins s σ H x y v u Q I rx ry h2
    · cases el
  unfold inV at ek
  split at ek
  · obtain ⟨a, xs, rfl, ha, z, rl⟩ := rb.lst
    exact seq rfl (.inl (SqL.of ha)) rl ek
  · obtain ⟨a, xs, rfl, ha, z, rl⟩ := (rb.rep (fun _ e => nomatch e) (fun _ _ e => nomatch e)).tup
    exact seq rfl (.inr ha.sq) rl ek
  · rename_i ks vs
    split at ek
    · rename_i kk hk
      cases ek
      obtain ⟨a, ys, rfl, ha, ey, rl⟩ := rb.dict
      have ex := asKey_kV hk ra
      subst ex
      have g : DGet H a (kV kk) (valV ys kk) := .inl ⟨ys, kk, ha, rfl, rfl⟩
      have hl := look_valV kk ey rl
      have e2 : (look ks vs kk).isSome = (valV ys kk).isSome := by
        cases h : look ks vs kk with
        | none => rw [hl.2 h]; rfl
        | some v => obtain ⟨x, e1, _⟩ := hl.1 v h; rw [e1]; rfl
      rw [e2] at q
      obtain rfl : u = Value.ref a := ry
      cases neg
      · exact d_in (by omega) I g rx fun s3 I3 => ⟨.bl (valV ys kk).isSome, H, I3, rfl, q⟩
      · exact d_notIn (by omega) I g rx fun s3 I3 => ⟨.bl (!(valV ys kk).isSome), H, I3, rfl, q⟩
    · cases ek
  · split at ek
    · rename_i l i
      cases ek
      have ex := ra.int
      subst ex
      have rb := rb.rep (fun _ e => nomatch e) (fun _ _ e => nomatch e)
      simp only [Rep] at rb
      obtain ⟨a, rfl, ha, na, _⟩ := rb
      obtain ⟨tk, rfl⟩ := rx
      obtain rfl : u = Value.ref a := ry
      cases neg
      · exact wpAny_inSet_of (intKind_is _ _ _ _) rfl (show s.heap.SetOf (intKind X.prog X.w) a _ _ from I.hok a _ ha) ⟨.bl _, H, I.tok _, rfl, q⟩
      · exact wpAny_notInSet_of (intKind_is _ _ _ _) rfl (show s.heap.SetOf (intKind X.prog X.w) a _ _ from I.hok a _ ha) ⟨.bl _, H, I.tok _, rfl, q⟩
    · cases ek
  · cases ek
theorem o_in (hu : X.A.units + 64 < cLine) (neg : Bool) : OpR X (compareOp (if neg then .NotIn else .In)) (rBin X.K X.w fun x y => bR (cmpv (if neg then .notin else .in_) x y)) := by
  rintro pins s σ H x y v u Q I rx ry ⟨N, va, vb, r, hN, ra, rb, e, q⟩
  have key : ∃ k, inV va vb = some k ∧ r = (.bool (if neg then !k else k), false) := by
    cases neg
    · simp only [cmpv, Bool.false_eq_true, if_false] at e
      cases h : inV va vb with
      | none => rw [h] at e; simp [bR] at e
      | some k => rw [h] at e; simp [bR] at e; exact ⟨k, rfl, by rw [← e]; rfl⟩
    · simp only [cmpv, if_true] at e
      cases h : inV va vb with
      | none => rw [h] at e; simp [bR] at e
      | some k => rw [h] at e; simp [bR] at e; exact ⟨k, rfl, by rw [← e]; rfl⟩
  obtain ⟨k, ek, rfl⟩ := key
  exact o_inS hu neg pins s σ H x y v u Q I rx ry ⟨N, va, vb, _, ra, .inl rb, by show (inV va vb).map _ = _; rw [ek]; rfl, q _ _ (.flat rep_bool)⟩
theorem o_cmp {op : CmpOp} {o : Cm} (ho : cmOf op = some o) (hu : X.A.units + 64 < cLine) : OpR X (compareOp op) (rBin X.K X.w fun x y => bR (cmpv o x y)) := by
  cases op <;> simp only [cmOf, Option.some.injEq, reduceCtorEq] at ho <;> subst ho
  case In => exact o_in hu false
  case NotIn => exact o_in hu true
  case Eq =>
    rintro pins s σ H x y v u Q I rx ry ⟨N, va, vb, r, hN, ra, rb, e, q⟩
    simp only [cmpv] at e
    split at e
    · rename_i hd
      simp only [Bool.and_eq_true] at hd
      simp only [bR, Option.some.injEq] at e
      subst e
      refine op_eqD hu pins s σ H x y v u Q I rx ry ⟨toD va, toD vb, dat_Dp 8 _ _ hd.1 ra, dat_Dp 8 _ _ hd.2 rb, shaped8 hd.1, shaped8 hd.2, ?_⟩
      rw [veq_eqv 8 8 _ _ hd.1 hd.2]
      exact q _ _ (.flat rep_bool)
    · simp [bR] at e
  case NotEq =>
    rintro pins s σ H x y v u Q I rx ry ⟨N, va, vb, r, hN, ra, rb, e, q⟩
    simp only [cmpv] at e
    split at e
    · rename_i hd
      simp only [Bool.and_eq_true] at hd
      simp only [bR, Option.some.injEq] at e
      subst e
      refine op_neD hu pins s σ H x y v u Q I rx ry ⟨toD va, toD vb, dat_Dp 8 _ _ hd.1 ra, dat_Dp 8 _ _ hd.2 rb, shaped8 hd.1, shaped8 hd.2, ?_⟩
      rw [veq_eqv 8 8 _ _ hd.1 hd.2]
      exact q _ _ (.flat rep_bool)
    · simp [bR] at e
  all_goals
    rintro pins s σ H x y v u Q I rx ry ⟨N, va, vb, r, hN, ra, rb, e, q⟩
    simp only [cmpv, cmpI] at e
    split at e
    · simp only [bR, Option.some.injEq] at e
      subst e
      have e1 := ra.int; subst e1
      have e2 := rb.int; subst e2
      have q := q _ _ (.flat rep_bool)
      first
      | exact op_lt pins s σ H _ _ v u Q I rx ry ⟨_, _, rfl, rfl, q⟩
      | exact op_le pins s σ H _ _ v u Q I rx ry ⟨_, _, rfl, rfl, q⟩
      | exact op_gt pins s σ H _ _ v u Q I rx ry ⟨_, _, rfl, rfl, q⟩
      | exact op_ge pins s σ H _ _ v u Q I rx ry ⟨_, _, rfl, rfl, q⟩
    · simp only [bR, Option.some.injEq] at e
      subst e
      have e1 := ra.str; subst e1
      have e2 := rb.str; subst e2
      have q := q _ _ (.flat rep_bool)
      first
      | exact op_lt_str pins s σ H _ _ v u Q I rx ry ⟨_, _, rfl, rfl, q⟩
      | exact op_le_str pins s σ H _ _ v u Q I rx ry ⟨_, _, rfl, rfl, q⟩
      | exact op_gt_str pins s σ H _ _ v u Q I rx ry ⟨_, _, rfl, rfl, q⟩
      | exact op_ge_str pins s σ H _ _ v u Q I rx ry ⟨_, _, rfl, rfl, q⟩
    · simp [bR] at e
end
end Q

end
section
set_option Elab.async false
set_option linter.all false
set_option maxRecDepth 100000
/-! Q: indexes, slices. -/
namespace Q
open PySem PySem.Spec PyProof.Rows L2
section
variable {X : Cx}
theorem atI_eq {α : Type} (xs : List α) (i : Int) : L2.atI xs i = Q.atI xs i := by
  unfold L2.atI Q.atI
  have : L2.ixN xs.length i = Q.ixN xs.length i := rfl
  rw [this]
  cases Q.ixN xs.length i <;> rfl
theorem rep_atI {K : PySem.W.Frag} {w : World} {N : AP1} {H : Hp} {l : List Val} {xs : List V} {i : Int} {v : Val} (r : RepL K w N H l xs) (h : Q.atI l i = some v) : ∃ x, L2.atI xs i = some x ∧ Rep K w N H v x := by
  rw [atI_eq]
  unfold Q.atI at h ⊢
  rw [r.length]
  split at h
  · obtain ⟨x, e, q⟩ := r.get h
    exact ⟨x, by simpa using e, q⟩
  · cases h
def rIdxS (K : PySem.W.Frag) (w : World) : R2 := fun x y H Q => ∃ N va vb z, SlotV K w N H va x ∧ Rep K w N H vb y ∧ idxV va vb = some z ∧ ∀ x', Rep K w N H z x' → Q x' H
theorem o_idxS (hu : X.A.units + 64 < cLine) : IxR X (rIdxS X.K X.w) := by
  rintro value slice pins s σ H x y v u Q I rx ry ⟨N, va, vb, z, ra, rb, ez, q⟩ hs
  unfold idxV at ez
  split at ez
  · obtain ⟨a, xs, rfl, ha, zz, rl⟩ := ra.lst
    have e2 := rb.int; subst e2
    obtain ⟨x, e3, r3⟩ := rep_atI rl ez
    exact ix_list value slice pins s σ H _ _ v u Q I rx ry ⟨a, xs, _, x, rfl, rfl, SqL.of ha, e3, q _ r3⟩ hs
  · obtain ⟨a, xs, rfl, ha, zz, rl⟩ := (ra.rep (fun _ e => nomatch e) (fun _ _ e => nomatch e)).scr
    have e2 := rb.int; subst e2
    obtain ⟨x, e3, r3⟩ := rep_atI rl ez
    exact ix_list value slice pins s σ H _ _ v u Q I rx ry ⟨a, xs, _, x, rfl, rfl, ha.sq, e3, q _ r3⟩ hs
  · obtain ⟨a, xs, rfl, ha, zz, rl⟩ := (ra.rep (fun _ e => nomatch e) (fun _ _ e => nomatch e)).tup
    have e2 := rb.int; subst e2
    obtain ⟨x, e3, r3⟩ := rep_atI rl ez
    exact ix_tup value slice pins s σ H _ _ v u Q I rx ry ⟨a, xs, _, x, rfl, rfl, ha.sq, e3, q _ r3⟩ hs
  · rename_i ks vs
    split at ez
    · rename_i kk hk
      obtain ⟨a, ys, rfl, ha, ey, rl⟩ := ra.dict
      have ex := asKey_kV hk rb
      subst ex
      obtain ⟨x, e1, r1⟩ := (look_valV kk ey rl).1 z ez
      have g : DGet H a (kV kk) (some x) := .inl ⟨ys, kk, ha, rfl, e1.symm⟩
      obtain rfl : v = Value.ref a := rx
      exact tail_any (dict_typeIs I g) PySem.F.slot_dict_getitem.lookup (d_getItem (by omega) I g ry fun w' s' I' rw' => ⟨x, H, I', rw', q _ r1⟩) hs
    · cases ez
  · cases ez
theorem o_idx (hu : X.A.units + 64 < cLine) : IxR X (rBin X.K X.w fun x y => vR (idxV x y)) := by
  rintro value slice pins s σ H x y v u Q I rx ry ⟨N, va, vb, r, hN, ra, rb, e, q⟩ hs
  have e : vR (idxV va vb) = some r := e
  cases h : idxV va vb with
  | none => rw [h] at e; cases e
  | some z =>
    rw [h] at e; cases e
    exact o_idxS hu value slice pins s σ H x y v u Q I rx ry ⟨N, va, vb, z, .inl ra, rb, h, fun x' r' => q _ _ (.flat r')⟩ hs
theorem sIx_eq (n d : Nat) (o : Option Int) : HT.sIx n d o = Q.sIx n d o := by cases o <;> rfl
theorem rep_cut {K : PySem.W.Frag} {w : World} {N : AP1} {H : Hp} {l : List Val} {xs : List V} (lo hi : Option Int) (r : RepL K w N H l xs) : RepL K w N H (cutL l lo hi) (cutV xs lo hi) := by
  unfold cutL cutV
  rw [sIx_eq, sIx_eq, r.length]
  exact (r.drop _).take _
theorem cut_len (l : List Val) (lo hi : Option Int) : (cutL l lo hi).length ≤ l.length := by
  unfold cutL; rw [List.length_take, List.length_drop]; omega
def rSlice (K : PySem.W.Frag) (w : World) : V → Option Int → Option Int → Hp → VK → Prop := fun x lo hi H Q => ∃ N va r, (∀ a, N a → ∃ o, H a = some o) ∧ Rep K w N H va x ∧ sliceV va lo hi = some r ∧ ∀ z H', DP K w N H r z H' → Q z H'
theorem o_slice : SlR X (rSlice X.K X.w) := by
  rintro pins s σ H x v vl vu lo hi sl Q I rx hs pl pu ⟨N, va, r, hN, ra, e, q⟩
  unfold sliceV at e
  split at e
  · cases e
    obtain ⟨a, xs, rfl, ha, zz, rl⟩ := ra.scr
    exact sl_list pins s σ H _ v vl vu lo hi sl Q I rx hs pl pu ⟨a, xs, rfl, ha.sq, fun p hp => q _ _ (.newL hp (rep_cut lo hi rl) (Nat.le_trans (cut_len _ _ _) zz))⟩
  · cases e
    obtain ⟨a, xs, rfl, ha, na, zz, rl⟩ := ra.lst
    exact sl_list pins s σ H _ v vl vu lo hi sl Q I rx hs pl pu ⟨a, xs, rfl, SqL.of ha, fun p hp => q _ _ (.newL hp (rep_cut lo hi rl) (Nat.le_trans (cut_len _ _ _) zz))⟩
  · cases e
    obtain ⟨a, xs, rfl, ha, zz, rl⟩ := ra.tup
    refine sl_tupA pins s σ H _ v vl vu lo hi sl Q I rx hs pl pu ⟨a, xs, rfl, ha.sq, fun h => q _ _ (.flat ?_), fun h p hp => q _ _ (.newT hN hp (rep_cut lo hi rl) (Nat.le_trans (cut_len _ _ _) zz))⟩
    rename_i l
    have : cutL l lo hi = l := by
      unfold cutL
      rw [sIx_eq, sIx_eq, rl.length] at h
      rw [h.1, h.2, List.drop_zero, Nat.sub_zero, List.take_length]
    rw [this]
    simp only [Rep]
    exact ⟨a, xs, rfl, ha, zz, rl⟩
  · cases e
end
section
variable {X : Cx} {cl : Cl} {a b c : Expr} {ia ib ic : E} {pos p2 : Pos} {lo hi : Option Expr}
theorem s_idx (hu : X.A.units + 64 < cLine) (ha : PE X a (tI X.K X.w cl ia)) (hb : PE X b (tI X.K X.w cl ib)) (hs : PlainIx b) : PE X (.Subscript a b pos) (tI X.K X.w cl (.idx ia ib)) :=
  (pe_ix (o_idx hu) ha hb hs).weak (tI.two fun env => by simp only [ev] <;> rfl)
/-- what a slot holds -/
theorem RS.slotV {K : PySem.W.Frag} {w : World} {Mo : AP1} {L : Option Addr} {own : Ow} {H : Hp} {σ : L2.St} {env : Env} (rs : RS K w Mo L own H σ env) {i : Nat} {v : Val} {k : Fl} (h : eget env i = some (v, k)) :
    ∃ x, σ[i]? = some (some x) ∧ SlotV K w (NN Mo own) H v x := by
  have q := rs.slot i
  rw [h] at q
  cases k with
  | sh => obtain ⟨_, y, e, r⟩ := q; exact ⟨y, e, .inl r⟩
  | ow => obtain ⟨a, _, e, r⟩ := q; exact ⟨_, e, .inr ⟨a, rfl, r⟩⟩
  | ln => obtain ⟨a, _, _, e, r⟩ := q; exact ⟨_, e, .inr ⟨a, rfl, r⟩⟩
theorem RS.hasx {K : PySem.W.Frag} {w : World} {Mo : AP1} {L : Option Addr} {own : Ow} {H : Hp} {σ : L2.St} {env : Env} (rs : RS K w Mo L own H σ env) {i : Nat} (h : has env i = true) : ∃ x, σ[i]? = some (some x) := by
  unfold has at h
  cases e : eget env i with
  | none => rw [e] at h; cases h
  | some s => obtain ⟨x, ex, _⟩ := rs.slotV (v := s.1) (k := s.2) e; exact ⟨x, ex⟩
/-- a slot that holds something holds something behind an expression, too -/
theorem Mid.slot {K : PySem.W.Frag} {w : World} {Mo : AP1} {L : Option Addr} {own own1 : Ow} {H H1 : Hp} {σ : L2.St} {env1 : Env} {A : List Addr} (m : Mid K w Mo L own H σ own1 A H1 env1) {i : Nat} {v : Val} {k : Fl} (h : eget env1 i = some (v, k)) :
    ∃ x, σ[i]? = some (some x) ∧ SlotV K w (NN (ad Mo A) own1) H1 v x := m.rs.slotV h
theorem s_idxv {x : Str} {i : Nat} {p : Pos} (hu : X.A.units + 64 < cLine) (hv : PE X (.Name x p) (tVar i)) (hb : PE X b (tI X.K X.w cl ib)) (hs : PlainIx b) : PE X (.Subscript (.Name x p) b pos) (tI X.K X.w cl (.idxv i ib)) := by
  refine (pe_ix (o_idxS hu) hv hb hs).weak ?_
  rintro σ H Q ⟨Mo, L, own, env, r, env', rs, e, q⟩
  simp only [ev] at e
  split at e
  · rename_i hh
    obtain ⟨x, ex⟩ := rs.hasx hh
    split at e
    · rename_i y env1 e1
      split at e
      · rename_i v k hv
        cases h : idxV v y.1 with
        | none => rw [h] at e; simp [mkV, vR, mk] at e
        | some z =>
          rw [h] at e
          simp only [mkV, vR, mk, Option.some.injEq, Prod.mk.injEq] at e
          obtain ⟨rfl, rfl⟩ := e
          refine ⟨x, ex, Mo, L, own, env, y, env1, rs, e1, fun y' H1 p => ?_⟩
          obtain ⟨own1, m, h1⟩ := p.mid
          obtain ⟨x', ex', sv⟩ := m.rs0.slotV hv
          rw [ex] at ex'
          cases ex'
          exact ⟨NN Mo own1, v, y.1, z, sv, h1, h, fun x' r' => q _ _ (.plain m r')⟩
      · cases e
    · cases e
  · cases e
/-- a slice's bound -/
def tO (K : PySem.W.Frag) (w : World) (cl : Cl) (e : E) : TO := fun σ H Q => ∃ Mo L own env o env', RS K w Mo L own H σ env ∧ bndR e (ev cl e env) env = some (o, env') ∧ ∀ H' own', Mid K w Mo L own H σ own' [] H' env' → Q o H'
theorem s_none : PO X none (tO X.K X.w cl .nil) := by
  refine ⟨fun pins s σ H Q I h => ?_⟩
  obtain ⟨Mo, L, own, env, o, env', rs, e, q⟩ := h
  simp only [bndR, Option.some.injEq, Prod.mk.injEq] at e
  obtain ⟨rfl, rfl⟩ := e
  exact po_none.run pins s σ H Q I (q H own (.refl rs))
theorem s_some (ha : PE X a (tI X.K X.w cl ia)) (hi : ia ≠ .nil) : PO X (some a) (tO X.K X.w cl ia) := by
  refine ⟨fun pins s σ H Q I h => ?_⟩
  obtain ⟨Mo, L, own, env, o, env', rs, e, q⟩ := h
  refine (po_some ha).run pins s σ H Q I ?_
  have e2 : ∃ i f, ev cl ia env = some ((.int i, f), env') ∧ o = some i := by
    unfold bndR at e
    split at e
    · exact absurd rfl hi
    · rename_i h; cases e; exact ⟨_, _, h, rfl⟩
    · cases e
  obtain ⟨i, f, e2, rfl⟩ := e2
  refine ⟨Mo, L, own, env, _, env', rs, e2, fun x H' p => ?_⟩
  obtain ⟨own1, m, h⟩ := p.mid
  exact ⟨i, h.int, q H' own1 m⟩
theorem s_slice {il ih : E} (ha : PE X a (tI X.K X.w cl ia)) (hl : PO X lo (tO X.K X.w cl il)) (hh : PO X hi (tO X.K X.w cl ih)) : PE X (.Subscript a (.Slice lo hi none p2) pos) (tI X.K X.w cl (.slice ia il ih)) := by
  refine (pe_slice o_slice ha hl hh).weak ?_
  rintro σ H Q ⟨Mo, L, own, env, r, env', rs, e, q⟩
  simp only [ev] at e
  split at e
  · rename_i x env1 e1
    split at e
    · rename_i l env2 e2
      split at e
      · rename_i h env3 e3
        refine ⟨Mo, L, own, env, x, env1, rs, e1, fun x1 H1 p => ?_⟩
        obtain ⟨own1, m1, h1⟩ := p.mid
        refine ⟨Mo, L, own1, env1, l, env2, m1.rs0, e2, fun H2 own2 m2 => ?_⟩
        refine ⟨Mo, L, own2, env2, h, env3, m2.rs0, e3, fun H3 own3 m3 => ?_⟩
        have m := (m1.two m2).two m3
        unfold mk at e
        split at e
        · rename_i r' er
          cases e
          exact ⟨NN Mo own3, x.1, r, fun a z => m.rs0.nn_some z, m3.val (m2.val h1), er, fun z H' d => q z H' (.seq m (d.post m.rs0))⟩
        · cases e
      · cases e
    · cases e
  · cases e
theorem s_rev {k : Nat} {p1 p2 p3 : Pos} (ha : PE X a (tI X.K X.w cl ia)) : PE X (.Subscript a (.Slice none none (some (.UnaryOp .USub (.Constant (.int 1) k p1) p2)) p3) pos) (tI X.K X.w cl (.rev ia)) := by
  refine (pe_revL ha).weak ?_
  rintro σ H Q ⟨Mo, L, own, env, r, env', rs, e, q⟩
  simp only [ev] at e
  split at e
  · rename_i l f env1 e1
    cases e
    refine ⟨Mo, L, own, env, _, _, rs, e1, fun x1 H1 p => ?_⟩
    obtain ⟨own1, m, h⟩ := p.mid
    obtain ⟨a, xs, rfl, ha, na, z, rl⟩ := h.lst
    refine ⟨a, xs, rfl, SqL.of ha, fun p hp => q _ _ (.seq m (DP.post m.rs0 (.newL hp ?_ (by simpa using z))))⟩
    have : ∀ {l : List Val} {xs : List V}, RepL X.K X.w (NN Mo own1) H1 l xs → RepL X.K X.w (NN Mo own1) H1 l.reverse xs.reverse := by
      intro l
      induction l with
      | nil => intro xs h; simp only [RepL] at h; subst h; exact RepL.nil
      | cons v l ih =>
        intro xs h
        simp only [RepL] at h
        obtain ⟨x, r, rfl, a, b⟩ := h
        rw [List.reverse_cons, List.reverse_cons]
        exact (ih b).append (RepL.cons a RepL.nil)
    exact this rl
  · cases e
end
end Q

end
section
set_option Elab.async false
set_option linter.all false
set_option maxRecDepth 100000
/-! Q: *d of a dict. -/
namespace QH
open PySem PySem.W
section
variable {prog : Program} {w : World} {A : Around} {E : Value → Shared → Prop} {s : Shared} {T : String} {r d : Addr} {n : Nat} {P : Nat → Value → Prop} {OK : Heap → Prop}
theorem code_collect {R : Result → Shared → Prop} (K : KdlSrc prog w T r d n P OK) (hh : A.handled = none) (hok : OK s.heap) (hn : n ≤ sizeLine)
    (hR : ∀ h' tk acc c', (∀ b o, s.heap.get? b = some o → h'.get? b = some o) → h'.get? s.heap.objs.size = some { cls := .type "list", dict := none, data := .seq acc c', slots := #[] } → ItemsOf P acc n → R (.ok (.ret (.ref s.heap.objs.size))) { s with heap := h', toks := tk }) :
    codeAny (model prog w) A (.builtin "proto.collect" ⟨[.ref r], []⟩) R s := by
  have hlt := K.there _ hok
  refine codeAny_builtin F.entry_proto_collect ?_
  rw [Around.under_plainId F.plain_proto_collect _]
  show wpAny _ A.in1 (newList [] >>= fun l => again (.builtin "list.__iadd__" ⟨[l, .ref r], []⟩)) _ _ s
  refine wpAny_bind (wpAny_newObj_type ?_)
  refine wpAny_pure ⟨plainId_quiet F.plain_list_iadd _, codeAny_builtin F.entry_list_iadd ?_⟩
  rw [Around.under_plainId F.plain_list_iadd _]
  show wpAny _ A.in1 (Builtin.List.listExtendWith (.ref s.heap.objs.size) (.ref r) (.ref s.heap.objs.size)) _ _ _
  have hS : (s.heap.push { cls := .type "list", data := .seq ([] : List Value).toArray }).get? s.heap.objs.size = some { cls := .type "list", data := .seq ([] : List Value).toArray } := Heap.get?_push_size _ rfl
  exact kdl_extend (s := { s with heap := s.heap.push { cls := .type "list", data := .seq ([] : List Value).toArray } }) K hh (K.keep _ _ hok fun b _ o e => Heap.get?_push_of_some _ e) _ (Nat.ne_of_gt hlt.1) (Nat.ne_of_gt hlt.2) _ 0 hS (fun h' tk acc' c' hk hS' hacc =>
    hR h' tk acc' c' (fun b o e => hk b o (Nat.ne_of_lt (Heap.lt_size e)) (Heap.get?_push_of_some _ e)) hS' hacc) hn
theorem collect_kdl {Q : List Value → Shared → Prop} (K : KdlSrc prog w T r d n P OK) (hh : A.handled = none) (hok : OK s.heap) (hn : n ≤ sizeLine)
    (hQ : ∀ h' tk acc, (∀ b o, s.heap.get? b = some o → h'.get? b = some o) → ItemsOf P acc n → Q acc.toList { s with heap := h', toks := tk }) : wpAny (model prog w) A (collect (.ref r)) Q E s := by
  unfold collect
  refine wpAny_bind (wpAny_runValue (code_collect K hh hok hn fun h' tk acc c' hk hS' hacc => ?_))
  show wpAny _ A (load s.heap.objs.size >>= _) _ _ _
  refine wpAny_bind (wpAny_load hS' ?_)
  exact wpAny_pure (hQ h' tk acc hk hacc)
end
end QH
namespace QH
open PySem PySem.Spec PyProof.Rows L2
theorem star_dict {X : Cx} {pins : List (Addr × Obj)} {σ : L2.St} {H : Hp} {s : Shared} {a : Addr} {kvs : List (Key × V)} {E : Value → Shared → Prop} {Q : List Value → Shared → Prop} (hc : X.calm = true) (I : Inv X pins σ H s) (h : Rd H a (.dK kvs))
    (hQ : ∀ us s', Inv X pins σ H s' → Vals (kvs.map fun p => kV p.1) us → Q us s') : PySem.W.StarOf (model X.prog X.w) X.A E (.ref a) Q s := by
  obtain ⟨z, lo, vs, rk, hd⟩ := dk_rd I.hok h
  obtain ⟨ep, hat⟩ := hd.dictAt
  have hl : kvs.length = vs.length := Paired.length rk
  have zz : wpAny (model X.prog X.w) X.A (collect (.ref a)) Q E s := by
    refine collect_kdl (PySem.W.kdl_dict (knd := mixKind X.prog X.w) (kvs := vs) (ep := ep) lo) (I.ok.hd hc) hat (by rw [← hl]; exact z) fun h' tk acc hk hacc => ?_
    refine hQ _ _ (I.kept (t' := tk) hk) ?_
    have el : acc.toList.length = acc.size := by simp
    refine vals_of_at (by rw [List.length_map, el, hacc.1, hl]) fun j x w h1 h2 => ?_
    obtain ⟨k, y, hky, hi⟩ := hacc.2 j w (by rw [← Array.getElem?_toList]; exact h2)
    have e1 : (kvs.map (·.1))[j]? = some k := by
      rw [KV.keys rk, List.getElem?_map, hky] <;> rfl
    have e2 : (kvs.map fun kv => kV kv.1)[j]? = some (kV k) := by
      have e3 : (kvs.map fun kv => kV kv.1) = (kvs.map (·.1)).map kV := by rw [List.map_map] <;> rfl
      rw [e3, List.getElem?_map, e1] <;> rfl
    rw [e2] at h1
    cases h1
    exact keyIs_rel hi
  have hT : s.TypeIs (.ref a) "dict" := hd.typeIs
  unfold PySem.W.StarOf notIterableAtAll
  exact wpAny_bind (wpAny_specialOf hT PySem.F.slot_dict_iter.lookup (wpAny_pure ⟨rfl, zz⟩))
end QH

end
section
set_option Elab.async false
set_option linter.all false
set_option maxRecDepth 100000
/-! Q: argument lists, displays, tests, and, or, not. -/
namespace Q
open PySem PySem.Spec PyProof.Rows L2
section
variable {X : Cx} {cl : Cl} {a b c : Expr} {ia ib ic : E} {pos p2 : Pos} {es : List Expr}
theorem starEach_plain {e : Expr} {r : List Expr} {env : PySem.Env} (h : ∀ x p, e ≠ .Starred x p) : starEach (e :: r) env = (false, eval e env) :: starEach r env := by
  cases e <;> first | rfl | exact absurd rfl (h _ _)
theorem s_anil : PA X [] (tIs X.K X.w cl .nil) := by
  refine pa_nil.weak ?_
  rintro σ H Q ⟨Mo, L, own, env, r, env', rs, e, q⟩
  simp only [evs, Option.some.injEq, Prod.mk.injEq] at e
  obtain ⟨rfl, rfl⟩ := e
  exact q [] H ⟨own, [], .refl rs, ⟨rfl, rfl⟩, List.nodup_nil⟩
theorem PostA.cons {K : PySem.W.Frag} {w : World} {Mo : AP1} {L : Option Addr} {own own1 : Ow} {H H1 H2 : Hp} {σ : L2.St} {env1 env2 : Env} {A1 : List Addr} {r : Res} {rs : List Res} {x : V} {xs : List V}
    (m : Mid K w Mo L own H σ own1 A1 H1 env1) (h : RR K w (NN (ad Mo A1) own1) H1 r x A1) (p : PostA K w (ad Mo A1) L own1 H1 σ rs env2 xs H2) : PostA K w Mo L own H σ (r :: rs) env2 (x :: xs) H2 := by
  obtain ⟨own2, A2, m2, h2, nd⟩ := p
  refine ⟨own2, A1 ++ A2, m.seq m2, ⟨x, xs, A1, A2, rfl, rfl, m.later m2 (fun _ z => z) h, by rw [← ad_ad]; exact h2⟩, ?_⟩
  refine List.nodup_append.mpr ⟨?_, nd, fun a ha b hb e => ?_⟩
  · unfold RR at h
    split at h
    · rw [h.1]; exact List.nodup_nil
    · obtain ⟨a, e, _⟩ := h; rw [e]; simp
  · subst e; exact m2.nm a hb (.inr ha)
theorem s_acons (ha : PE X a (tI X.K X.w cl ia)) (hr : PA X es (tIs X.K X.w cl ib)) (hp : ∀ x p, a ≠ .Starred x p) : PA X (a :: es) (tIs X.K X.w cl (.cons ia ib)) := by
  refine (pa_cons ha hr (starEach_plain hp)).weak ?_
  rintro σ H Q ⟨Mo, L, own, env, r, env', rs, e, q⟩
  simp only [evs] at e
  split at e
  · rename_i x env1 e1
    split at e
    · rename_i l env2 e2
      cases e
      refine ⟨Mo, L, own, env, x, env1, rs, e1, fun x1 H1 p => ?_⟩
      obtain ⟨own1, A1, m, h⟩ := p
      exact ⟨ad Mo A1, L, own1, env1, l, env', m.rs, e2, fun xs H2 p2 => q _ H2 (.cons m h p2)⟩
    · cases e
  · cases e
theorem RRs.plain {K : PySem.W.Frag} {w : World} {N : AP1} {H : Hp} : ∀ {l : List Val} {xs : List V}, RepL K w N H l xs → RRs K w N H (l.map (·, false)) xs []
  | [], xs, h => by simp only [RepL] at h; exact ⟨h, rfl⟩
  | v :: l, xs, h => by
    simp only [RepL] at h
    obtain ⟨x, r, rfl, a, b⟩ := h
    exact ⟨x, r, [], [], rfl, rfl, ⟨rfl, a⟩, RRs.plain b⟩
theorem RRs.append {K : PySem.W.Frag} {w : World} {N : AP1} {H : Hp} : ∀ {l m : List Res} {xs ys : List V} {A B : List Addr}, RRs K w N H l xs A → RRs K w N H m ys B → RRs K w N H (l ++ m) (xs ++ ys) (A ++ B)
  | [], m, xs, ys, A, B, h, k => by obtain ⟨rfl, rfl⟩ := h; exact k
  | r :: l, m, xs, ys, A, B, h, k => by
    obtain ⟨x, zs, A1, A2, rfl, rfl, r1, r2⟩ := h
    refine ⟨x, zs ++ ys, A1, A2 ++ B, rfl, by rw [List.append_assoc], r1, RRs.append r2 k⟩
theorem map_keyV {K : PySem.W.Frag} {w : World} {N : AP1} {H : Hp} : ∀ (ks : List Key), RepL K w N H (ks.map keyV) (ks.map kV)
  | [] => RepL.nil
  | .inl i :: ks => RepL.cons (by simp [keyV, Rep, kV]) (map_keyV ks)
  | .inr i :: ks => RepL.cons (by simp [keyV, Rep, kV]) (map_keyV ks)
theorem s_ascons (hc : X.calm = true) (ha : PE X a (tI X.K X.w cl ia)) (hr : PA X es (tIs X.K X.w cl ib)) : PA X (.Starred a p2 :: es) (tIs X.K X.w cl (.scons ia ib)) := by
  refine ⟨fun pos pins s σ H Q I h => ?_⟩
  obtain ⟨Mo, L, own, env, r, env', rs, e, q⟩ := h
  simp only [evs] at e
  split at e
  · rename_i x env1 e1
    split at e
    · rename_i m em
      split at e
      · rename_i l env2 e2
        cases e
        refine PySem.W.items_star (thn (ha.run pins s σ H _ I ⟨Mo, L, own, env, x, env1, rs, e1, fun x1 H1 p => p⟩) fun v s1 ⟨y, H1, I1, ry, p⟩ => ?_) rfl
        obtain ⟨own1, m1, h1⟩ := p.mid
        have fin : ∀ {xs : List V} {us : List Value} {s2 : Shared}, Inv X pins σ H1 s2 → Vals xs us → RepL X.K X.w (NN Mo own1) H1 m xs → wpAny (model X.prog X.w) X.A (spliced (backTo pos (starEach es X.env))) (fun vs s₃ => L2.AP X pins σ Q (us ++ vs) s₃) X.xe s2 := by
          intro xs us s2 I2 rv rm
          refine thn (hr.run pos pins s2 σ H1 _ I2 ⟨Mo, L, own1, env1, l, env', m1.rs0, e2, fun ys H2 p2 => p2⟩) fun ws s3 ⟨ys, H3, I3, r3, p3⟩ => ?_
          obtain ⟨own2, A2, m2, h2, nd⟩ := p3
          refine ⟨xs ++ ys, H3, I3, rv.append r3, q _ H3 ⟨own2, A2, ?_, ?_, nd⟩⟩
          · have := m1.seq (by rw [ad_nil]; exact m2)
            simpa using this
          · have k := m2.kp.kp
            exact (RRs.plain (rm.kp k)).append h2
        obtain ⟨xv, xf⟩ := x
        simp only at em h1
        unfold starV at em
        split at em
        · cases em
          obtain ⟨a, xs, rfl, ha', na, zz, rl⟩ := h1.lst
          obtain rfl : v = Value.ref a := ry
          exact StX.star_any I1 (.inr (SqL.of ha')) fun us s2 I2 rv => fin I2 rv rl
        · cases em
          obtain ⟨a, xs, rfl, ha', zz, rl⟩ := h1.tup
          obtain rfl : v = Value.ref a := ry
          exact StX.star_any I1 (.inl ha'.sq) fun us s2 I2 rv => fin I2 rv rl
        · cases em
          obtain ⟨a, ys, rfl, ha', na, ey, rl⟩ := h1.dict
          obtain rfl : v = Value.ref a := ry
          refine QH.star_dict hc I1 ha' fun us s2 I2 rv => fin I2 rv ?_
          have := map_keyV (K := X.K) (w := X.w) (N := NN Mo own1) (H := H1) (ys.map (·.1))
          rw [ey] at this
          have e2 : (ys.map fun p => kV p.1) = (ys.map (·.1)).map kV := by rw [List.map_map]; rfl
          rw [e2, ey]
          exact this
        · cases em
      · cases e
    · cases e
  · cases e
/-! ### displays -/
theorem s_tup {k : Nat} (h : PA X es (tIs X.K X.w cl ia)) : PE X (.Tuple es k pos) (tI X.K X.w cl (.tup ia)) := by
  refine (pe_tup h).weak ?_
  rintro σ H Q ⟨Mo, L, own, env, r, env', rs, e, q⟩
  simp only [ev] at e
  split at e
  · rename_i l env1 e1
    split at e
    · rename_i hz
      cases e
      refine ⟨Mo, L, own, env, l, env', rs, e1, fun xs H1 p => ?_⟩
      obtain ⟨own1, m, h1⟩ := p.mid
      have hz : (vals l).length ≤ sizeLine := by rw [sizeL]; simpa [vals, okLen] using hz
      exact ⟨by rw [h1.length]; exact hz, fun p hp => q _ _ (.seq m (DP.post m.rs0 (.newT (fun a z => m.rs0.nn_some z) hp h1 hz)))⟩
    · cases e
  · cases e
theorem s_lst (h : PA X es (tIs X.K X.w cl ia)) : PE X (.List es pos) (tI X.K X.w cl (.lst ia)) := by
  refine (pe_lst h).weak ?_
  rintro σ H Q ⟨Mo, L, own, env, r, env', rs, e, q⟩
  simp only [ev] at e
  split at e
  · rename_i l env1 e1
    split at e
    · rename_i hz
      cases e
      refine ⟨Mo, L, own, env, l, env', rs, e1, fun xs H1 p => ?_⟩
      obtain ⟨own1, m, h1⟩ := p.mid
      have hz : (vals l).length ≤ sizeLine := by rw [sizeL]; simpa [vals, okLen] using hz
      exact ⟨by rw [h1.length]; exact hz, fun p hp => q _ _ (.seq m (DP.post m.rs0 (.newL hp h1 hz)))⟩
    · cases e
  · cases e
/-! ### tests -/
/-- from a test's reading: what it decides -/
theorem tTt.go {K : PySem.W.Frag} {w : World} {e : E} {σ : L2.St} {H : Hp} {Q : Bool → Hp → Prop} {Mo : AP1} {L : Option Addr} {own : Ow} {env env' : Env} {b : Bool} (rs : RS K w Mo L own H σ env) (e1 : boolR (ev cl e env) = some (b, env'))
    (q : ∀ H' own', Mid K w Mo L own H σ own' [] H' env' → Q b H') : tTt K w cl e σ H Q := ⟨Mo, L, own, env, b, env', rs, e1, q⟩
theorem s_test (h : PE X a (tI X.K X.w cl ia)) (he : ∀ whole, isTrue a X.env whole = (do let v ← whole; standAt a.pos; holding [v] (truthy v))) : PT X a (tTt X.K X.w cl ia) :=
  (pt_val h he).weak fun σ H Q q => tTt.val q
/-- a bool's value from a test's result -/
theorem boolR_some {r : Option (Res × Env)} {b : Bool} {env : Env} (h : boolR r = some (b, env)) : ∃ f, r = some ((.bool b, f), env) := by
  unfold boolR at h
  split at h
  · cases h; exact ⟨_, rfl⟩
  · cases h
theorem s_not (h : PT X a (tTt X.K X.w cl ia)) : PT X (.UnaryOp .Not a pos) (tTt X.K X.w cl (.not ia)) := by
  refine (pt_not h).weak ?_
  rintro σ H Q ⟨Mo, L, own, env, b, env', rs, e, q⟩
  obtain ⟨f, e⟩ := boolR_some e
  simp only [ev] at e
  split at e
  · rename_i c env1 e1
    cases e
    exact .go rs e1 fun H' own' m => q H' own' m
  · cases e
theorem s_and {rest : List Expr} (ha : PT X a (tTt X.K X.w cl ia)) (hb : PW X (.BoolOp .And (b :: rest) pos) (tTt X.K X.w cl ib)) : PW X (.BoolOp .And (a :: b :: rest) pos) (tTt X.K X.w cl (.and ia ib)) := by
  refine (pw_and ha hb).weak ?_
  rintro σ H Q ⟨Mo, L, own, env, k, env', rs, e, q⟩
  obtain ⟨f, e⟩ := boolR_some e
  simp only [ev] at e
  split at e
  · rename_i env1 e1
    split at e
    · rename_i c env2 e2
      cases e
      refine .go rs e1 fun H' own' m => ?_
      simp only [if_true]
      exact .go m.rs0 e2 fun H2 own2 m2 => q H2 own2 (m.two m2)
    · cases e
  · rename_i env1 e1
    cases e
    refine .go rs e1 fun H' own' m => ?_
    simp only [Bool.false_eq_true, if_false]
    exact q H' own' m
  · cases e
theorem s_or {rest : List Expr} (ha : PT X a (tTt X.K X.w cl ia)) (hb : PW X (.BoolOp .Or (b :: rest) pos) (tTt X.K X.w cl ib)) : PW X (.BoolOp .Or (a :: b :: rest) pos) (tTt X.K X.w cl (.or ia ib)) := by
  refine (pw_or ha hb).weak ?_
  rintro σ H Q ⟨Mo, L, own, env, k, env', rs, e, q⟩
  obtain ⟨f, e⟩ := boolR_some e
  simp only [ev] at e
  split at e
  · rename_i env1 e1
    cases e
    refine .go rs e1 fun H' own' m => ?_
    simp only [if_true]
    exact q H' own' m
  · rename_i env1 e1
    split at e
    · rename_i c env2 e2
      cases e
      refine .go rs e1 fun H' own' m => ?_
      simp only [Bool.false_eq_true, if_false]
      exact .go m.rs0 e2 fun H2 own2 m2 => q H2 own2 (m.two m2)
    · cases e
  · cases e
/-! ### the same as values -/
theorem tI.bool {K : PySem.W.Frag} {w : World} {e : E} {σ : L2.St} {H : Hp} {Q : VK} {Mo : AP1} {L : Option Addr} {own : Ow} {env env' : Env} {b : Bool} (rs : RS K w Mo L own H σ env) (e1 : boolR (ev cl e env) = some (b, env'))
    (q : ∀ H' own', Mid K w Mo L own H σ own' [] H' env' → Q (.bl b) H') : tI K w cl e σ H Q := by
  obtain ⟨f, e1⟩ := boolR_some e1
  refine ⟨Mo, L, own, env, _, env', rs, e1, fun x H' p => ?_⟩
  obtain ⟨own', m, h⟩ := p.mid
  rw [h.bool]
  exact q H' own' m
theorem s_notV (h : PE X a (tI X.K X.w cl ia)) : PE X (.UnaryOp .Not a pos) (tI X.K X.w cl (.not ia)) := by
  refine (pe_not h).weak ?_
  rintro σ H Q ⟨Mo, L, own, env, r, env', rs, e, q⟩
  simp only [ev] at e
  split at e
  · rename_i c env1 e1
    cases e
    exact .bool rs e1 fun H' own' m => ⟨c, rfl, q _ _ (.plain m rep_bool)⟩
  · cases e
theorem s_andV {rest : List Expr} (ha : PE X a (tI X.K X.w cl ia)) (hb : PE X (.BoolOp .And (b :: rest) pos) (tI X.K X.w cl ib)) : PE X (.BoolOp .And (a :: b :: rest) pos) (tI X.K X.w cl (.and ia ib)) := by
  refine (pe_and ha hb).weak ?_
  rintro σ H Q ⟨Mo, L, own, env, r, env', rs, e, q⟩
  simp only [ev] at e
  split at e
  · rename_i env1 e1
    split at e
    · rename_i c env2 e2
      cases e
      refine .bool rs e1 fun H' own' m => ⟨true, rfl, ?_⟩
      simp only [if_true]
      exact .bool m.rs0 e2 fun H2 own2 m2 => q _ _ (.plain (m.two m2) rep_bool)
    · cases e
  · rename_i env1 e1
    cases e
    refine .bool rs e1 fun H' own' m => ⟨false, rfl, ?_⟩
    simp only [Bool.false_eq_true, if_false]
    exact q _ _ (.plain m rep_bool)
  · cases e
theorem s_orV {rest : List Expr} (ha : PE X a (tI X.K X.w cl ia)) (hb : PE X (.BoolOp .Or (b :: rest) pos) (tI X.K X.w cl ib)) : PE X (.BoolOp .Or (a :: b :: rest) pos) (tI X.K X.w cl (.or ia ib)) := by
  refine (pe_or ha hb).weak ?_
  rintro σ H Q ⟨Mo, L, own, env, r, env', rs, e, q⟩
  simp only [ev] at e
  split at e
  · rename_i env1 e1
    cases e
    refine .bool rs e1 fun H' own' m => ⟨true, rfl, ?_⟩
    simp only [if_true]
    exact q _ _ (.plain m rep_bool)
  · rename_i env1 e1
    split at e
    · rename_i c env2 e2
      cases e
      refine .bool rs e1 fun H' own' m => ⟨false, rfl, ?_⟩
      simp only [Bool.false_eq_true, if_false]
      exact .bool m.rs0 e2 fun H2 own2 m2 => q _ _ (.plain (m.two m2) rep_bool)
    · cases e
  · cases e
theorem s_ite (hc : PT X c (tTt X.K X.w cl ic)) (ha : PE X a (tI X.K X.w cl ia)) (hb : PE X b (tI X.K X.w cl ib)) : PE X (.IfExp c a b pos) (tI X.K X.w cl (.ite ic ia ib)) := by
  refine (pe_ifExp hc ha hb).weak ?_
  rintro σ H Q ⟨Mo, L, own, env, r, env', rs, e, q⟩
  simp only [ev] at e
  split at e
  · rename_i env1 e1
    refine .go rs e1 fun H' own' m => ?_
    simp only [if_true]
    exact ⟨Mo, L, own', env1, r, env', m.rs0, e, fun x H2 p => q x H2 (.seq m p)⟩
  · rename_i env1 e1
    refine .go rs e1 fun H' own' m => ?_
    simp only [Bool.false_eq_true, if_false]
    exact ⟨Mo, L, own', env1, r, env', m.rs0, e, fun x H2 p => q x H2 (.seq m p)⟩
  · cases e
theorem s_neg (ha : PE X a (tI X.K X.w cl ia)) : PE X (.UnaryOp .USub a pos) (tI X.K X.w cl (.neg ia)) := by
  refine (pe_un un_neg ha).weak ?_
  rintro σ H Q ⟨Mo, L, own, env, r, env', rs, e, q⟩
  simp only [ev] at e
  split at e
  · rename_i i f env1 e1
    cases e
    refine ⟨Mo, L, own, env, _, _, rs, e1, fun x H1 p => ?_⟩
    obtain ⟨own1, m, h⟩ := p.mid
    exact ⟨i, h.int, q _ _ (.plain m rep_int)⟩
  · cases e
end
end Q

end
section
set_option Elab.async false
set_option linter.all false
set_option maxRecDepth 100000
/-! Q: rules that the layer lacks, first part. -/
namespace QH
open PySem
section
variable {prog : Program} {w : World} {A : Around} {E : Value → Shared → Prop} {s : Shared} {l : Addr} {xs : Array (Int × Tok)}
theorem tup_fresh (hlt : l < s.heap.objs.size) {o : Obj} : ∀ b ∈ [s.heap.objs.size, l], b < (s.heap.push o).objs.size := by
  intro b hb
  rw [Heap.size_push]
  rcases List.mem_cons.mp hb with rfl | hb
  · exact Nat.lt_succ_self _
  · rcases List.mem_cons.mp hb with rfl | hb
    · exact Nat.lt_succ_of_lt hlt
    · cases hb
theorem tup_kept {o : Obj} {h' : Heap} (hk : ∀ b u, b ∉ [s.heap.objs.size] → (s.heap.push o).get? b = some u → h'.get? b = some u) : ∀ b u, s.heap.get? b = some u → h'.get? b = some u := fun b u e => by
  refine hk b u (fun hm => ?_) (Heap.get?_push_of_some _ e)
  rcases List.mem_cons.mp hm with e1 | hm
  · exact absurd (e1 ▸ Heap.lt_size e) (Nat.lt_irrefl _)
  · cases hm
theorem tup_lt {vs : Array Value} (hl : s.heap.IsTuple l vs) : l < s.heap.objs.size := by obtain ⟨_, e, _⟩ := hl; exact Heap.lt_size e
theorem sum_intTupG {Q : Value → Shared → Prop} (hh : A.handled = none) (hl : s.heap.IsTuple l (intItems xs))
    (h : ∀ h' tk t', (∀ b o, s.heap.get? b = some o → h'.get? b = some o) → Q (.int (preSum (numAt xs) xs.size) t') { s with heap := h', toks := tk }) :
    wpAny (model prog w) A (call (.builtin "sum") [.ref l]) Q E s := by
  have hlt := tup_lt hl
  refine call_sum_walkG (wpAny_pyIter_tuple hl ?_)
  refine ⟨_, _, _, _, _, _, numAt xs, rfl, Walks.tuple (A := A.in1) hh _ l (Nat.ne_of_lt hlt) (intItems xs), ⟨⟨_, Heap.get?_push_size _ rfl, rfl, rfl⟩, hl.push _⟩, tup_fresh hlt, (fun _ _ => intItems_at), fun h' tk t' hk => ?_⟩
  have := h h' tk t' (tup_kept hk)
  simpa [intItems] using this
theorem max_intTup {Q : Value → Shared → Prop} (hh : A.handled = none) (hl : s.heap.IsTuple l (intItems xs)) (hne : 0 < xs.size)
    (h : ∀ v h' tk, (intItems xs)[argBest (fun i j => decide (numAt xs i > numAt xs j)) (xs.size - 1)]? = some v → (∀ b o, s.heap.get? b = some o → h'.get? b = some o) → Q v { s with heap := h', toks := tk }) :
    wpAny (model prog w) A (call (.builtin "max") [.ref l]) Q E s := by
  have hlt := tup_lt hl
  refine call_max_walk (wpAny_pyIter_tuple hl ?_)
  refine ⟨_, _, _, _, _, _, _, rfl, Walks.tuple (A := A.in1) hh _ l (Nat.ne_of_lt hlt) (intItems xs), ⟨⟨_, Heap.get?_push_size _ rfl, rfl, rfl⟩, hl.push _⟩, tup_fresh hlt, by simpa [intItems] using hne, CmpOf.ints_gt (numAt xs) (fun _ _ => intItems_at), fun v h' tk hP hk => ?_⟩
  exact h v h' tk (by simpa [intItems] using hP) (tup_kept hk)
theorem min_intTup {Q : Value → Shared → Prop} (hh : A.handled = none) (hl : s.heap.IsTuple l (intItems xs)) (hne : 0 < xs.size)
    (h : ∀ v h' tk, (intItems xs)[argBest (fun i j => decide (numAt xs i < numAt xs j)) (xs.size - 1)]? = some v → (∀ b o, s.heap.get? b = some o → h'.get? b = some o) → Q v { s with heap := h', toks := tk }) :
    wpAny (model prog w) A (call (.builtin "min") [.ref l]) Q E s := by
  have hlt := tup_lt hl
  refine call_min_walk (wpAny_pyIter_tuple hl ?_)
  refine ⟨_, _, _, _, _, _, _, rfl, Walks.tuple (A := A.in1) hh _ l (Nat.ne_of_lt hlt) (intItems xs), ⟨⟨_, Heap.get?_push_size _ rfl, rfl, rfl⟩, hl.push _⟩, tup_fresh hlt, by simpa [intItems] using hne, CmpOf.ints_lt (numAt xs) (fun _ _ => intItems_at), fun v h' tk hP hk => ?_⟩
  exact h v h' tk (by simpa [intItems] using hP) (tup_kept hk)
end
end QH
namespace QH
open PySem PySem.Spec PyProof.Rows L2
section
variable {X : Cx} {pins : List (Addr × Obj)} {s : Shared} {σ : L2.St} {H : Hp} {a : Addr} {m : List Int} {k : Int} {Q : VK}
theorem sum_tup (hc : X.calm = true) (I : Inv X pins σ H s) (h : SqT X.K H a (m.map V.int)) (q : Q (.int m.sum) H) :
    wpAny (model X.prog X.w) X.A (call (.builtin "sum") [.ref a]) (EP X pins σ Q) X.xe s := by
  obtain ⟨its, rv, hl, _⟩ := I.tuple h
  have hi := rv.ints
  obtain ⟨xs, e⟩ := hi.allInts.items
  have hn : numsOf (intItems xs).toList = m := by rw [← e]; exact hi.numsOf
  rw [nums_intItems] at hn
  rw [e] at hl
  refine sum_intTupG (I.ok.hd hc) hl fun h' tk t' hk => ?_
  rw [preSum_eq, List.take_of_length_le (by simp), hn]
  exact ⟨.int _, H, I.kept hk, ⟨_, rfl⟩, q⟩
theorem max_rawT (hc : X.calm = true) (I : Inv X pins σ H s) (h : SqT X.K H a (m.map V.int)) (hne : 0 < m.length) (q : ∀ M, M ∈ m → (∀ y, y ∈ m → y ≤ M) → Q (.int M) H) : wpAny (model X.prog X.w) X.A (call (.builtin "max") [.ref a]) (EP X pins σ Q) X.xe s := by
  obtain ⟨its, rv, hl, _⟩ := I.tuple h
  have hi := rv.ints
  obtain ⟨xs, e⟩ := hi.allInts.items
  have hn : numsOf (intItems xs).toList = m := by rw [← e]; exact hi.numsOf
  rw [nums_intItems] at hn
  subst hn
  rw [e] at hl
  have hsz : 0 < xs.size := by simpa using hne
  refine max_intTup (I.ok.hd hc) hl hsz fun v h' tk hv hk => ?_
  obtain ⟨t, rfl⟩ := intItems_at hv
  obtain ⟨h1, h2⟩ := argBest_gt (numAt xs) (xs.size - 1)
  refine ⟨.int _, H, I.kept hk, ⟨_, rfl⟩, q _ ?_ fun a ha => ?_⟩
  · rw [numAt_eq]; exact PySem.getD_mem (by rw [List.length_map, Array.length_toList]; omega)
  · obtain ⟨j, hj, rfl⟩ := mem_getD ha
    rw [List.length_map, Array.length_toList] at hj
    rw [← numAt_eq]; exact h2 j (by omega)
theorem min_rawT (hc : X.calm = true) (I : Inv X pins σ H s) (h : SqT X.K H a (m.map V.int)) (hne : 0 < m.length) (q : ∀ M, M ∈ m → (∀ y, y ∈ m → M ≤ y) → Q (.int M) H) : wpAny (model X.prog X.w) X.A (call (.builtin "min") [.ref a]) (EP X pins σ Q) X.xe s := by
  obtain ⟨its, rv, hl, _⟩ := I.tuple h
  have hi := rv.ints
  obtain ⟨xs, e⟩ := hi.allInts.items
  have hn : numsOf (intItems xs).toList = m := by rw [← e]; exact hi.numsOf
  rw [nums_intItems] at hn
  subst hn
  rw [e] at hl
  have hsz : 0 < xs.size := by simpa using hne
  refine min_intTup (I.ok.hd hc) hl hsz fun v h' tk hv hk => ?_
  obtain ⟨t, rfl⟩ := intItems_at hv
  obtain ⟨h1, h2⟩ := argBest_lt (numAt xs) (xs.size - 1)
  refine ⟨.int _, H, I.kept hk, ⟨_, rfl⟩, q _ ?_ fun a ha => ?_⟩
  · rw [numAt_eq]; exact PySem.getD_mem (by rw [List.length_map, Array.length_toList]; omega)
  · obtain ⟨j, hj, rfl⟩ := mem_getD ha
    rw [List.length_map, Array.length_toList] at hj
    rw [← numAt_eq]; exact h2 j (by omega)
end
end QH

end
section
set_option Elab.async false
set_option linter.all false
set_option maxRecDepth 100000
/-! Q: slots read and changed. -/
namespace Q
open PySem PySem.Spec PyProof.Rows L2
theorem eset_len : ∀ (env : Env) (i : Nat) (s : Slot), (eset env i s).length = env.length
  | [], _, _ => rfl
  | _ :: _, 0, _ => rfl
  | _ :: r, n + 1, s => by simp [eset_len r n s]
theorem eget_same : ∀ (env : Env) (i : Nat) (s : Slot), i < env.length → eget (eset env i s) i = s
  | [], _, _, h => by simp at h
  | _ :: _, 0, _, _ => rfl
  | _ :: r, n + 1, s, h => by
    simp only [eset, eget]
    exact eget_same r n s (by simpa using h)
theorem eget_ne : ∀ (env : Env) (i j : Nat) (s : Slot), j ≠ i → eget (eset env i s) j = eget env j
  | [], _, _, _, _ => rfl
  | _ :: _, 0, 0, _, h => absurd rfl h
  | _ :: _, 0, j + 1, _, _ => rfl
  | _ :: _, i + 1, 0, _, _ => rfl
  | _ :: r, i + 1, j + 1, s, h => by
    simp only [eset, eget]
    exact eget_ne r i j s (fun e => h (by rw [e]))
theorem eget_lt : ∀ {env : Env} {i : Nat} {s : Val × Fl}, eget env i = some s → i < env.length
  | [], _, _, h => by simp at h
  | _ :: _, 0, _, _ => by simp
  | _ :: r, n + 1, s, h => by
    simp only [eget] at h
    have := eget_lt h
    simp; exact this
def setO (own : Ow) (i : Nat) (o : Option Addr) : Ow := fun j => if j = i then o else own j
section
variable {K : PySem.W.Frag} {w : World} {Mo Mo' : AP1} {L : Option Addr} {own own' own1 own2 : Ow} {H H' H1 H2 : Hp} {σ σ' : L2.St} {env env' env1 env2 : Env} {A A1 A2 : List Addr}
theorem RS.change (rs : RS K w Mo L own H σ env) {i : Nat} {s : Slot} {o : Option Addr} (hi : i < env.length)
    (kp : Kp (NN Mo own) H (NN Mo' (setO own i o)) H') (hk : ∀ j a, j ≠ i → own j = some a → ∀ u, H a = some u → H' a = some u)
    (hl : σ'.length = σ.length) (hσ : ∀ j, j ≠ i → σ'[j]? = σ[j]?) (hm : ∀ a, Mo' a → ∃ u, H' a = some u) (hMo : ∀ j a, j ≠ i → own j = some a → ¬ Mo' a)
    (ho : ∀ a, o = some a → ¬ Mo' a ∧ ∀ j, j ≠ i → own j ≠ some a) (hs : SlotOk K w (NN Mo' (setO own i o)) H' L s σ'[i]? o) : RS K w Mo' L (setO own i o) H' σ' (eset env i s) := by
  refine ⟨by rw [eset_len, hl]; exact rs.len, fun j k a e1 e2 => ?_, fun j a e1 => ?_, hm, fun j => ?_⟩
  · unfold setO at e1 e2
    by_cases hj : j = i
    · rw [if_pos hj] at e1
      by_cases hk' : k = i
      · rw [hj, hk']
      · rw [if_neg hk'] at e2; exact absurd e2 ((ho a e1).2 k hk')
    · rw [if_neg hj] at e1
      by_cases hk' : k = i
      · rw [if_pos hk'] at e2; exact absurd e1 ((ho a e2).2 j hj)
      · rw [if_neg hk'] at e2; exact rs.inj j k a e1 e2
  · unfold setO at e1
    by_cases hj : j = i
    · rw [if_pos hj] at e1; exact (ho a e1).1
    · rw [if_neg hj] at e1; exact hMo j a hj e1
  · by_cases hj : j = i
    · subst hj
      rw [eget_same env j s hi]
      simp only [setO, if_true]
      exact hs
    · rw [eget_ne env i j s hj, hσ j hj]
      have e : setO own i o j = own j := by simp [setO, hj]
      rw [e]
      exact (rs.slot j).kp kp (fun a e u => hk j a hj e u)
/-- an owned thing becomes a plain value -/
theorem RS.freeze (rs : RS K w Mo L own H σ env) {i : Nat} {v : Val} (h : eget env i = some (v, .ow)) :
    Mid K w Mo L own H σ (setO own i none) [] H (eset env i (some (v, .sh))) ∧ ∃ x, σ[i]? = some (some x) ∧ Rep K w (NN Mo (setO own i none)) H v x := by
  have q := rs.slot i
  rw [h] at q
  obtain ⟨a, e1, e2, o⟩ := q
  have sub : ∀ b, NN Mo (setO own i none) b → NN Mo own b := by
    rintro b (z | ⟨j, z⟩)
    · exact .inl z
    · unfold setO at z
      by_cases hj : j = i
      · rw [if_pos hj] at z; cases z
      · rw [if_neg hj] at z; exact .inr ⟨j, z⟩
  have na : ¬ NN Mo (setO own i none) a := by
    rintro (z | ⟨j, z⟩)
    · exact rs.nmo i a e1 z
    · unfold setO at z
      by_cases hj : j = i
      · rw [if_pos hj] at z; cases z
      · rw [if_neg hj] at z; exact hj (rs.inj j i a z e1)
  have r : Rep K w (NN Mo (setO own i none)) H v (.ref a) := o.rep na sub
  refine ⟨⟨?_, ⟨fun u o' e n => ⟨⟨o', e, .refl⟩, fun j z => ?_⟩, fun u o' _ e => e, fun u o' e => ⟨o', e⟩, by simp⟩, by simp, fun j b z => ?_⟩, _, e2, r⟩
  · rw [ad_nil]
    exact rs.change (eget_lt h) (.sub sub) (fun _ _ _ _ _ e => e) rfl (fun _ _ => rfl) rs.mos (fun j a _ e => rs.nmo j a e) (fun _ z => nomatch z) ⟨rfl, _, e2, r⟩
  · unfold setO at z
    by_cases hj : j = i
    · rw [if_pos hj] at z; cases z
    · rw [if_neg hj] at z; exact n j z
  · unfold setO at z
    by_cases hj : j = i
    · rw [if_pos hj] at z; cases z
    · rw [if_neg hj] at z; exact z
end
section
variable {X : Cx} {cl : Cl} {a b c : Expr} {ia ib ic : E} {pos p p2 : Pos} {es : List Expr} {x : Str} {i : Nat}
theorem s_var (hv : PE X (.Name x p) (tVar i)) : PE X (.Name x p) (tI X.K X.w cl (.var i)) := by
  refine hv.weak ?_
  rintro σ H Q ⟨Mo, L, own, env, r, env', rs, e, q⟩
  simp only [ev, readV] at e
  split at e
  · rename_i v h
    cases e
    have s := rs.slot i
    rw [h] at s
    obtain ⟨_, y, e1, r1⟩ := s
    exact ⟨y, e1, q _ _ (.plain (.refl rs) r1)⟩
  · rename_i v h
    cases e
    obtain ⟨m, y, e1, r1⟩ := rs.freeze h
    exact ⟨y, e1, q _ _ (.plain m r1)⟩
  · cases e
theorem s_inv {n : Bool} (hu : X.A.units + 64 < cLine) (ha : PE X a (tI X.K X.w cl ia)) (hv : PE X (.Name x p) (tVar i)) :
    PE X (.Compare a [if n then .NotIn else .In] [.Name x p] pos) (tI X.K X.w cl (.inv n ia i)) := by
  refine (pe_cmpR (o_inS hu n) ha hv (by cases n <;> rfl)).weak ?_
  rintro σ H Q ⟨Mo, L, own, env, r, env', rs, e, q⟩
  simp only [ev] at e
  split at e
  · rename_i y env1 e1
    split at e
    · rename_i v k hv
      split at e
      · rename_i kk hk
        cases e
        refine ⟨Mo, L, own, env, y, env', rs, e1, fun x1 H1 p => ?_⟩
        obtain ⟨own1, m, h1⟩ := p.mid
        obtain ⟨x', ex', sv⟩ := m.rs0.slotV hv
        exact ⟨x', ex', NN Mo own1, y.1, v, _, h1, sv, by simp only [hk, Option.map_some], q _ _ (.plain m rep_bool)⟩
      · cases e
    · cases e
  · cases e
theorem s_invT {n : Bool} (hu : X.A.units + 64 < cLine) (ha : PE X a (tI X.K X.w cl ia)) (hv : PE X (.Name x p) (tVar i)) :
    PT X (.Compare a [if n then .NotIn else .In] [.Name x p] pos) (tTt X.K X.w cl (.inv n ia i)) := by
  refine (pt_cmpR (o_inS hu n) ha hv (by cases n <;> rfl)).weak ?_
  rintro σ H Q h
  obtain ⟨Mo, L, own, env, r, env', rs, e, q⟩ := tTt.val h
  simp only [ev] at e
  split at e
  · rename_i y env1 e1
    split at e
    · rename_i v k hv
      split at e
      · rename_i kk hk
        cases e
        refine ⟨Mo, L, own, env, y, env', rs, e1, fun x1 H1 p => ?_⟩
        obtain ⟨own1, m, h1⟩ := p.mid
        obtain ⟨x', ex', sv⟩ := m.rs0.slotV hv
        exact ⟨x', ex', NN Mo own1, y.1, v, _, h1, sv, by simp only [hk, Option.map_some], q _ _ (.plain m rep_bool)⟩
      · cases e
    · cases e
  · cases e
/-! ### built-in functions -/
theorem len_ok {pins : List (Addr × Obj)} {s : Shared} {σ : L2.St} {H : Hp} {N : AP1} {v : Val} {y : V} {us : List Value} {Q : VK} {r : Res} (I : Inv X pins σ H s) (sv : SlotV X.K X.w N H v y) (rv : Vals [y] us) (e : bLen [v] = some r) (q : ∀ z, Rep X.K X.w N H r.1 z → Q z H) :
    wpAny (model X.prog X.w) X.A (call (.builtin "len") us) (EP X pins σ Q) X.xe s := by
  simp only [bLen, iR] at e
  cases v with
  | lst l =>
    cases e
    obtain ⟨a, xs, rfl, ha, z, rl⟩ := sv.lst
    exact call_len_seq pins s σ H _ us Q I rv ⟨a, xs, rfl, .inl (SqL.of ha), q _ (by rw [rl.length]; exact rep_int)⟩
  | scr l =>
    cases e
    obtain ⟨a, xs, rfl, ha, z, rl⟩ := (sv.rep (fun _ e => nomatch e) (fun _ _ e => nomatch e)).scr
    exact call_len_seq pins s σ H _ us Q I rv ⟨a, xs, rfl, .inl ha.sq, q _ (by rw [rl.length]; exact rep_int)⟩
  | tup l =>
    cases e
    obtain ⟨a, xs, rfl, ha, z, rl⟩ := (sv.rep (fun _ e => nomatch e) (fun _ _ e => nomatch e)).tup
    exact call_len_seq pins s σ H _ us Q I rv ⟨a, xs, rfl, .inr ha.sq, q _ (by rw [rl.length]; exact rep_int)⟩
  | dict ks vs =>
    cases e
    obtain ⟨a, ys, rfl, ha, ey, rl⟩ := sv.dict
    have el : ys.length = ks.length := by rw [← ey, List.length_map]
    obtain ⟨u, rfl, ru⟩ := vals1 rv
    cases ru
    exact d_len I ha fun t s' I' => ⟨.int ys.length, H, I', ⟨t, rfl⟩, q _ (by rw [el]; exact rep_int)⟩
  | str z =>
    simp only at e
    split at e
    · rename_i hz
      cases e
      have e1 := (sv.rep (fun _ e => nomatch e) (fun _ _ e => nomatch e)).str
      subst e1
      exact call_len_str pins s σ H _ us Q I rv ⟨z, rfl, by rw [sizeL]; simpa [okLen] using hz, q _ rep_int⟩
    · cases e
  | none => cases e
  | bool b => cases e
  | int i => cases e
  | set l => cases e
theorem RepL.one {K : PySem.W.Frag} {w : World} {N : AP1} {H : Hp} {v : Val} {xs : List V} (h : RepL K w N H [v] xs) : ∃ x, xs = [x] ∧ Rep K w N H v x := by
  simp only [RepL] at h
  obtain ⟨x, r, rfl, a, rfl⟩ := h
  exact ⟨x, rfl, a⟩
theorem RepL.two {K : PySem.W.Frag} {w : World} {N : AP1} {H : Hp} {v u : Val} {xs : List V} (h : RepL K w N H [v, u] xs) : ∃ x y, xs = [x, y] ∧ Rep K w N H v x ∧ Rep K w N H u y := by
  simp only [RepL] at h
  obtain ⟨x, r, rfl, a, y, r2, rfl, b, rfl⟩ := h
  exact ⟨x, y, rfl, a, b⟩
theorem RepL.three {K : PySem.W.Frag} {w : World} {N : AP1} {H : Hp} {v u z : Val} {xs : List V} (h : RepL K w N H [v, u, z] xs) : ∃ x y t, xs = [x, y, t] ∧ Rep K w N H v x ∧ Rep K w N H u y ∧ Rep K w N H z t := by
  simp only [RepL] at h
  obtain ⟨x, r, rfl, a, y, r2, rfl, b, t, r3, rfl, c, rfl⟩ := h
  exact ⟨x, y, t, rfl, a, b, c⟩
/-- a list or tuple of ints -/
theorem intsOf_seq {K : PySem.W.Frag} {w : World} {N : AP1} {H : Hp} {v : Val} {x : V} {m : List Int} (h : intsOf v = some m) (r : Rep K w N H v x) : ∃ a, x = .ref a ∧ ((∃ l, v = .lst l ∧ H a = some (.lst (m.map V.int))) ∨ (∃ l, v = .tup l ∧ SqT K H a (m.map V.int))) ∧ m.length ≤ sizeLine := by
  unfold intsOf at h
  split at h
  · obtain ⟨a, xs, rfl, ha, na, z, rl⟩ := r.lst
    have e := rl.ints h
    subst e
    have := rl.length
    rw [List.length_map] at this
    exact ⟨a, rfl, .inl ⟨_, rfl, ha⟩, by omega⟩
  · obtain ⟨a, xs, rfl, ha, z, rl⟩ := r.tup
    have e := rl.ints h
    subst e
    have := rl.length
    rw [List.length_map] at this
    exact ⟨a, rfl, .inr ⟨_, rfl, ha.sq⟩, by omega⟩
  · cases h
theorem o_lenA : CallR X (.builtin "len") (rAr X.K X.w bLen) := by
  rintro pins s σ H xs us Q I rv ⟨N, va, r, hN, ra, e, q⟩
  have key : ∃ v, va = [v] ∧ r.2 = false := by
    unfold bLen iR at e
    split at e
    · cases e; exact ⟨_, rfl, rfl⟩
    · cases e; exact ⟨_, rfl, rfl⟩
    · cases e; exact ⟨_, rfl, rfl⟩
    · cases e; exact ⟨_, rfl, rfl⟩
    · split at e
      · cases e; exact ⟨_, rfl, rfl⟩
      · cases e
    · cases e
  obtain ⟨v, rfl, h2⟩ := key
  obtain ⟨x, rfl, rx⟩ := ra.one
  exact len_ok I (.inl rx) rv e fun z rz => q z H (.inl ⟨rfl, h2, rz⟩)
theorem o_abs : CallR X (.builtin "abs") (rAr X.K X.w bAbs) := by
  rintro pins s σ H xs us Q I rv ⟨N, va, r, hN, ra, e, q⟩
  unfold bAbs iR at e
  split at e
  · cases e
    obtain ⟨x, rfl, rx⟩ := ra.one
    have := rx.int; subst this
    exact call_abs pins s σ H _ us Q I rv ⟨_, rfl, q _ _ (.flat rep_int)⟩
  · cases e
theorem o_min2 (hc : X.calm = true) : CallR X (.builtin "min") (rAr X.K X.w bMin2) := by
  rintro pins s σ H xs us Q I rv ⟨N, va, r, hN, ra, e, q⟩
  unfold bMin2 iR at e
  split at e
  · cases e
    obtain ⟨x, y, rfl, rx, ry⟩ := ra.two
    have := rx.int; subst this
    have := ry.int; subst this
    exact call_min2 hc pins s σ H _ us Q I rv ⟨_, _, rfl, q _ _ (.flat rep_int)⟩
  · cases e
theorem o_max2 (hc : X.calm = true) : CallR X (.builtin "max") (rAr X.K X.w bMax2) := by
  rintro pins s σ H xs us Q I rv ⟨N, va, r, hN, ra, e, q⟩
  unfold bMax2 iR at e
  split at e
  · cases e
    obtain ⟨x, y, rfl, rx, ry⟩ := ra.two
    have := rx.int; subst this
    have := ry.int; subst this
    exact call_max2 hc pins s σ H _ us Q I rv ⟨_, _, rfl, q _ _ (.flat rep_int)⟩
  · cases e
theorem o_int : CallR X (.type "int") (rAr X.K X.w bInt) := by
  rintro pins s σ H xs us Q I rv ⟨N, va, r, hN, ra, e, q⟩
  unfold bInt iR at e
  split at e
  · cases e
    obtain ⟨x, rfl, rx⟩ := ra.one
    have := rx.int; subst this
    exact call_int1 pins s σ H _ us Q I rv (.inl ⟨_, rfl, q _ _ (.flat rep_int)⟩)
  · cases e
    obtain ⟨x, rfl, rx⟩ := ra.one
    have := rx.bool; subst this
    exact call_int1 pins s σ H _ us Q I rv (.inr ⟨_, rfl, q _ _ (.flat rep_int)⟩)
  · cases e
theorem o_all (hc : X.calm = true) : CallR X (.builtin "all") (rAr X.K X.w (oB (·.all id))) := by
  rintro pins s σ H xs us Q I rv ⟨N, va, r, hN, ra, e, q⟩
  unfold oB at e
  split at e
  · split at e
    · rename_i m hm
      cases e
      obtain ⟨x, rfl, rx⟩ := ra.one
      obtain ⟨a, ys, rfl, ha, na, z, rl⟩ := rx.lst
      have := rl.bools hm; subst this
      exact cr_all hc pins s σ H _ us Q I rv ⟨a, m, rfl, SqL.of ha, q _ _ (.flat rep_bool)⟩
    · cases e
  · cases e
theorem o_any (hc : X.calm = true) : CallR X (.builtin "any") (rAr X.K X.w (oB (·.any id))) := by
  rintro pins s σ H xs us Q I rv ⟨N, va, r, hN, ra, e, q⟩
  unfold oB at e
  split at e
  · split at e
    · rename_i m hm
      cases e
      obtain ⟨x, rfl, rx⟩ := ra.one
      obtain ⟨a, ys, rfl, ha, na, z, rl⟩ := rx.lst
      have := rl.bools hm; subst this
      exact cr_any hc pins s σ H _ us Q I rv ⟨a, m, rfl, SqL.of ha, q _ _ (.flat rep_bool)⟩
    · cases e
  · cases e
theorem o_sum (hc : X.calm = true) : CallR X (.builtin "sum") (rAr X.K X.w (oI fun m => some m.sum)) := by
  rintro pins s σ H xs us Q I rv ⟨N, va, r, hN, ra, e, q⟩
  unfold oI iR at e
  split at e
  · split at e
    · rename_i m hm
      simp only at e
      cases e
      obtain ⟨x, rfl, rx⟩ := ra.one
      obtain ⟨a, rfl, h, z⟩ := intsOf_seq hm rx
      rcases h with ⟨l, rfl, ha⟩ | ⟨l, rfl, ha⟩
      · exact cr_sum hc pins s σ H _ us Q I rv ⟨a, m, rfl, SqL.of ha, q _ _ (.flat rep_int)⟩
      · rw [Vals.ref1 rv]
        exact QH.sum_tup hc I ha (q _ _ (.flat rep_int))
    · cases e
  · cases e
end
end Q

end
section
set_option Elab.async false
set_option linter.all false
set_option maxRecDepth 100000
/-! Q: zip of two, three lists or tuples. -/
namespace Q
open PySem PySem.Spec PyProof.Rows L2
/-- a Turn from a walk that yields new tuples -/
theorem turn_T {P : Program} {w : World} {K : PySem.W.Frag} {elts : List Expr} {kk : Nat} {tpos : Pos} {it : Addr} {wr fp : List Addr} {J : It} {tn : Nat → Heap → Prop}
    (mem : it ∈ fp) (hwr : ∀ b ∈ wr, b ∈ fp) (obj : ∀ i h, tn i h → ∀ b ∈ fp, ∃ o, h.get? b = some o ∧ ∀ v, o.data ≠ .cell v)
    (keep : ∀ i h h', tn i h → (∀ b ∈ fp, ∀ o, h.get? b = some o → h'.get? b = some o) → tn i h')
    (self : ∀ (A : Around) (i : Nat) (s : Shared) (Q : Value → Shared → Prop) (E : Value → Shared → Prop), tn i s.heap → Q (.ref it) s → wpAny (model P w) A (pyIter (.ref it)) Q E s)
    (G : ∀ (X : Cx), X.prog = P → X.w = w → X.K = K → X.calm = true → ∀ (i : Nat) (pins : List (Addr × Obj)) (s : Shared) (σ : L2.St) (H : Hp), Inv X pins σ H s → tn i s.heap → J.go i H →
      ∃ fpl n Pt St Mid, WalksT P w X.A it fpl wr n Pt St Mid ∧ i < n ∧ St i s.heap ∧ (∀ h', St (i + 1) h' → tn (i + 1) h') ∧
        ∀ T vals, Pt i vals → ∃ vs, Vals vs vals.toList ∧ vs.length ≤ sizeLine ∧ (H T = none → J.yld i H (.ref T) (upd H T (.tup vs))))
    (G' : ∀ (X : Cx), X.prog = P → X.w = w → X.K = K → X.calm = true → ∀ (i : Nat) (pins : List (Addr × Obj)) (s : Shared) (σ : L2.St) (H : Hp), Inv X pins σ H s → tn i s.heap → J.stop i H →
      ∃ fpl Pt St Mid, WalksT P w X.A it fpl wr i Pt St Mid ∧ St i s.heap) :
    Turn P w K (.Tuple elts kk tpos) J fp it tn where
  mem := mem
  obj := obj
  keep := keep
  item := by
    intro X hP hw hK hc i pins s σ H E I hf st hg
    obtain ⟨fpl, n, Pt, St, Mid, W, hi, hst, hnext, hy⟩ := G X hP hw hK hc i pins s σ H I st hg
    subst hP hw hK
    refine W.item i s _ _ hi hst fun T vals h' tk hp hT ht hm k => ⟨_, rfl, ?_⟩
    refine W.go _ _ _ i T _ _ _ hm fun h'' hst'' k2 => ?_
    obtain ⟨vs, hv, hz, yl⟩ := hy T vals hp
    have hn : H T = none := I.hok.fresh hT
    obtain ⟨o, ho, hoc, m, hd⟩ := id ht
    have hT2 : h''.get? T = some o := k2 T o (W.apart i T h' hm) ho
    have kk' : ∀ b o, b ∉ fp → s.heap.get? b = some o → h''.get? b = some o := fun b o hb e => k2 b o (fun z => hb (hwr b z)) (k b o (fun z => hb (hwr b z)) e)
    have new : ObjOk X.prog X.w (upd H T (.tup vs)) h'' T (.tup vs) := ⟨hz, vals.toList, hv, o, hT2, hoc, m, by simpa using hd⟩
    have I1 : Inv X pins σ (upd H T (.tup vs)) { s with heap := h'', toks := tk } := I.turnedNew (ch := fp) kk' hf hT new
    refine ⟨.ref T, _, I1, rfl, yl hn, hnext _ hst'', fun b hb => ?_⟩
    have hne : b ≠ T := by
      rintro rfl
      obtain ⟨o', e', _⟩ := obj i s.heap st b hb
      exact absurd (Nat.lt_of_lt_of_le (Heap.lt_size e') hT) (Nat.lt_irrefl _)
    rw [upd_ne hne]
    exact (hf b hb).1
  done := by
    intro X hP hw hK hc i pins s σ H E I hf st hg
    obtain ⟨fpl, Pt, St, Mid, W, hst⟩ := G' X hP hw hK hc i pins s σ H I st hg
    subst hP hw hK
    refine W.done s _ _ hst fun h' tk k => ⟨rfl, I.turnedL (ch := fp) (fun b o hb e => k b o (fun z => hb (hwr b z)) e) hf⟩
  self := self
/-- list (true) or tuple -/
def SqK (k : Bool) (K : PySem.W.Frag) (H : Hp) (a : Addr) (xs : List V) : Prop := match k with
  | true => SqL K H a xs
  | false => SqT K H a xs
def ItK (k : Bool) (h : Heap) (it a : Addr) (i : Nat) : Prop := match k with
  | true => h.IsListIter it a i
  | false => h.IsTupleIter it a i
def HpK (k : Bool) (h : Heap) (a : Addr) (items : Array Value) : Prop := match k with
  | true => h.IsList a items
  | false => h.IsTuple a items
def obK (k : Bool) (a : Addr) : Obj := match k with
  | true => { cls := .type "list_iterator", data := .fields #[.ref a, .int 0 0] }
  | false => { cls := .type "tuple_iterator", data := .fields #[.ref a, .int 0 0] }
theorem drawsK (k : Bool) {P : Program} {w : World} {A : Around} (hh : A.handled = none) (it a : Addr) (hne : a ≠ it) (items : Array Value) :
    Draws P w A it [it, a] items.size (fun i v => items[i]? = some v) (fun i h => ItK k h it a i ∧ HpK k h a items) := by
  cases k
  · exact Draws.tuple hh it a hne items
  · exact Draws.list hh it a hne items
theorem beginsK (k : Bool) (a : Addr) (items : Array Value) : Begins (.ref a) (obK k a) fun h => HpK k h a items := by
  cases k
  · exact begins_tuple a items
  · exact begins_list a items
theorem itK_obj {k : Bool} {h : Heap} {it a : Addr} {i : Nat} (st : ItK k h it a i) : ∃ o, h.get? it = some o ∧ ∀ v, o.data ≠ .cell v := by
  cases k
  · obtain ⟨o, e, c, d⟩ := st; exact ⟨o, e, fun v z => by rw [d] at z; cases z⟩
  · obtain ⟨o, e, c, d⟩ := st; exact ⟨o, e, fun v z => by rw [d] at z; cases z⟩
theorem itK_keep {k : Bool} {h h' : Heap} {it a : Addr} {i : Nat} (st : ItK k h it a i) (hk : ∀ o, h.get? it = some o → h'.get? it = some o) : ItK k h' it a i := by
  cases k
  · exact Heap.IsTupleIter.at st hk
  · exact Heap.IsListIter.at st hk
theorem itK_new {k : Bool} {h : Heap} {it a : Addr} (e : h.get? it = some (obK k a)) : ItK k h it a 0 := by
  cases k
  · exact ⟨_, e, rfl, rfl⟩
  · exact ⟨_, e, rfl, rfl⟩
section
variable {X : Cx} {pins : List (Addr × Obj)} {σ : L2.St} {H : Hp} {s : Shared} {a : Addr} {xs ys : List V}
theorem inv_sqK (k : Bool) (I : Inv X pins σ H s) (h : SqK k X.K H a xs) : ∃ its : List Value, Vals xs its ∧ HpK k s.heap a its.toArray ∧ xs.length ≤ sizeLine ∧ a < s.heap.objs.size := by
  cases k
  · obtain ⟨its, r, p, z⟩ := I.tuple h
    obtain ⟨o, ho, _⟩ := id p
    exact ⟨its, r, p, z, Heap.lt_size ho⟩
  · obtain ⟨its, r, p, z⟩ := I.list h
    exact ⟨its, r, p.isList, z, p.lt⟩
theorem inv_sqK_inj (k : Bool) (I : Inv X pins σ H s) (h : SqK k X.K H a xs) (h' : SqK k X.K H a ys) : xs = ys := by
  cases k
  · exact I.tuple_inj h h'
  · exact I.list_inj h h'
end
def ItZ2 (k1 k2 : Bool) (K : PySem.W.Frag) (a b : Addr) : It :=
  ⟨fun i H => ∃ (xs ys : List V) (x y : V), SqK k1 K H a xs ∧ SqK k2 K H b ys ∧ xs[i]? = some x ∧ ys[i]? = some y,
    fun i H v H' => ∃ T x y, v = .ref T ∧ H T = none ∧ H' = upd H T (.tup [x, y]) ∧ (∀ xs, SqK k1 K H a xs → xs[i]? = some x) ∧ ∀ ys, SqK k2 K H b ys → ys[i]? = some y,
    fun i H => ∃ xs ys : List V, SqK k1 K H a xs ∧ SqK k2 K H b ys ∧ i = min xs.length ys.length⟩
theorem turn_Z2 {P : Program} {w : World} {K : PySem.W.Frag} {elts : List Expr} {kk : Nat} {tpos : Pos} (k1 k2 : Bool) {a b z TI TO i1 i2 : Addr} (D : ZipSep2 z TI TO i1 i2 [i1, a] [i2, b]) (h1 : a ≠ i1) (h2 : b ≠ i2) :
    Turn P w K (.Tuple elts kk tpos) (ItZ2 k1 k2 K a b) [z, TI, TO, i1, i2] z (fun i h => IsZip h z TI TO .none ∧ IsTupOf2 h TI (.ref i1) (.ref i2) ∧ (∃ a1 a2, IsTupOf2 h TO a1 a2) ∧ ItK k1 h i1 a i ∧ ItK k2 h i2 b i) := by
  refine turn_T (wr := [z, TO, i1, i2]) (by simp) (by simp) (fun i h st c hc => ?_) (fun i h h' st k => ?_) (fun A i s Q E st h => wpAny_pyIter_zip st.1 h) ?_ ?_
  · obtain ⟨hz, hTI, ⟨x, y, hTO⟩, s1, s2⟩ := st
    have e' : c = z ∨ c = TI ∨ c = TO ∨ c = i1 ∨ c = i2 := by simpa using hc
    rcases e' with q | q | q | q | q
    · rw [q]; exact ⟨_, hz, fun v q => nomatch q⟩
    · rw [q]; exact ⟨_, hTI, fun v q => nomatch q⟩
    · rw [q]; exact ⟨_, hTO, fun v q => nomatch q⟩
    · rw [q]; exact itK_obj s1
    · rw [q]; exact itK_obj s2
  · obtain ⟨hz, hTI, ⟨x, y, hTO⟩, s1, s2⟩ := st
    exact ⟨k z (by simp) _ hz, k TI (by simp) _ hTI, ⟨x, y, k TO (by simp) _ hTO⟩, itK_keep s1 (k i1 (by simp)), itK_keep s2 (k i2 (by simp))⟩
  · intro X hP hw hK hc i pins s σ H I st hg
    subst hP hw hK
    obtain ⟨hz, hTI, hTO, s1, s2⟩ := st
    obtain ⟨xs, ys, x, y, qx, qy, ex, ey⟩ := hg
    obtain ⟨its, rv, p, _, _⟩ := inv_sqK k1 I qx
    obtain ⟨its2, rv2, p2, _, _⟩ := inv_sqK k2 I qy
    obtain ⟨u, hu, ru⟩ := rv.get ex
    obtain ⟨u2, hu2, ru2⟩ := rv2.get ey
    refine ⟨_, _, _, _, _, WalksT.zipD2 D (drawsK k1 (A := X.A.in1) (I.ok.hd hc) i1 a h1 its.toArray) (drawsK k2 (A := X.A.in1) (I.ok.hd hc) i2 b h2 its2.toArray), ?_, ⟨hz, hTI, hTO, ⟨s1, p⟩, ⟨s2, p2⟩⟩,
      fun h' ⟨q1, q2, q3, q4, q5⟩ => ⟨q1, q2, q3, q4.1, q5.1⟩, fun T vals ⟨x1, x2, e1, e2, e3⟩ => ?_⟩
    · have l1 := (List.getElem?_eq_some_iff.mp hu).1
      have l2 := (List.getElem?_eq_some_iff.mp hu2).1
      simp; omega
    · have e1' : x1 = u := by simpa [hu] using e1.symm
      have e2' : x2 = u2 := by simpa [hu2] using e2.symm
      subst e1' e2' e3
      exact ⟨[x, y], .cons ru (.cons ru2 .nil), by show 2 ≤ sizeLine; decide, fun hn => ⟨T, x, y, rfl, hn, rfl, fun l hl => by rw [inv_sqK_inj k1 I hl qx]; exact ex, fun l hl => by rw [inv_sqK_inj k2 I hl qy]; exact ey⟩⟩
  · intro X hP hw hK hc i pins s σ H I st hg
    subst hP hw hK
    obtain ⟨hz, hTI, hTO, s1, s2⟩ := st
    obtain ⟨xs, ys, qx, qy, ei⟩ := hg
    obtain ⟨its, rv, p, _, _⟩ := inv_sqK k1 I qx
    obtain ⟨its2, rv2, p2, _, _⟩ := inv_sqK k2 I qy
    have l1 := rv.length
    have l2 := rv2.length
    have W := WalksT.zipD2 D (drawsK k1 (P := X.prog) (w := X.w) (A := X.A.in1) (I.ok.hd hc) i1 a h1 its.toArray) (drawsK k2 (A := X.A.in1) (I.ok.hd hc) i2 b h2 its2.toArray)
    have en : min its.toArray.size its2.toArray.size = i := by simp; omega
    rw [en] at W
    exact ⟨_, _, _, _, W, hz, hTI, hTO, ⟨s1, p⟩, ⟨s2, p2⟩⟩
def iZ2 (K : PySem.W.Frag) (ta : TA) : TI := fun σ H R => ta σ H fun vs H1 => ∃ k1 k2 a b xs ys, vs = [.ref a, .ref b] ∧ SqK k1 K H1 a xs ∧ SqK k2 K H1 b ys ∧ R (ItZ2 k1 k2 K a b) H1
theorem pi_Z2 {X : Cx} {e e2 : Expr} {ta : TA} {p pos tpos : Pos} {elts : List Expr} {kk : Nat} (hg : Gl X "zip") (hm : X.mg "zip" = none) (ha : PA X [e, e2] ta)
    (hs : starEach [e, e2] X.env = (false, eval e X.env) :: starEach [e2] X.env) (hpl : (backTo pos (starEach [e2] X.env)).any (·.1) = false) :
    PI X (.Tuple elts kk tpos) (.Call (.Name "zip" p) [e, e2] [] pos) (iZ2 X.K ta) := by
  refine ⟨fun pins s σ H R I h => ?_⟩
  refine Call_ (ld_blt I hg hm PyProof.Rows.boot_zip (PyProof.Rows.callWith_type1 (thn (ha.run pos pins s σ H _ I h) fun us s1 ⟨vs, H1, I1, r1, q1⟩ => ?_) hs hpl))
  obtain ⟨k1, k2, a, b, xs, ys, ex, qx, qy, q⟩ := q1
  subst ex
  cases r1 with
  | cons r rr =>
    cases rr with
    | cons r' rr =>
      cases rr
      cases r
      cases r'
      obtain ⟨its, rv, p1, _, la⟩ := inv_sqK k1 I1 qx
      obtain ⟨its2, rv2, p2, _, lb⟩ := inv_sqK k2 I1 qy
      refine zip_begins2 (beginsK k1 a its.toArray) (beginsK k2 b its2.toArray) p1 p2 fun h' hz hTI hTO h1 h2 hsz hk => wpAny_pyIter_zip hz ?_
      have I2 : Inv X pins σ H1 { s1 with heap := h' } := I1.kept (t' := s1.toks) hk
      refine ⟨s1.heap.objs.size + 4, [s1.heap.objs.size + 4, s1.heap.objs.size + 2, s1.heap.objs.size + 3, s1.heap.objs.size, s1.heap.objs.size + 1], _, _, H1, rfl, I2,
        turn_Z2 k1 k2 (zip_sep2 (N := s1.heap.objs.size) (fp1 := [a]) (fp2 := [b]) (by simpa using la) (by simpa using lb)) (Nat.ne_of_lt la) (Nat.ne_of_lt (Nat.lt_succ_of_lt lb)), ⟨hz, hTI, ⟨_, _, hTO⟩, itK_new h1, itK_new h2⟩, fun c hcm => ?_, q⟩
      have e' : c = s1.heap.objs.size + 4 ∨ c = s1.heap.objs.size + 2 ∨ c = s1.heap.objs.size + 3 ∨ c = s1.heap.objs.size ∨ c = s1.heap.objs.size + 1 := by simpa using hcm
      have hle : s1.heap.objs.size ≤ c := by
        rcases e' with z | z | z | z | z
        · rw [z]; exact Nat.le_add_right _ _
        · rw [z]; exact Nat.le_add_right _ _
        · rw [z]; exact Nat.le_add_right _ _
        · rw [z]; exact Nat.le_refl _
        · rw [z]; exact Nat.le_add_right _ _
      exact I1.fpOk hle (I1.hok.fresh hle)
end Q

end
section
set_option Elab.async false
set_option linter.all false
set_option maxRecDepth 100000
/-! Q: targets, what is walked. -/
namespace Q
open PySem PySem.Spec PyProof.Rows L2
section
variable {K : PySem.W.Frag} {w : World} {Mo Mo' : AP1} {L : Option Addr} {own own' own1 own2 : Ow} {H H' H1 H2 : Hp} {σ σ' : L2.St} {env env' env1 env2 : Env} {A A1 A2 : List Addr}
/-- a plain value stored in a slot -/
theorem RS.bind (rs : RS K w Mo L own H σ env) {i : Nat} {v : Val} {x : V} (hi : i < env.length) (r : Rep K w (NN Mo own) H v x) : RS K w Mo L (setO own i none) H (σ.set i (some x)) (eset env i (some (v, .sh))) := by
  have sub : ∀ b, NN Mo (setO own i none) b → NN Mo own b := by
    rintro b (z | ⟨j, z⟩)
    · exact .inl z
    · unfold setO at z
      by_cases hj : j = i
      · rw [if_pos hj] at z; cases z
      · rw [if_neg hj] at z; exact .inr ⟨j, z⟩
  refine rs.change hi (.sub sub) (fun _ _ _ _ _ e => e) (by simp) (fun j hj => by rw [List.getElem?_set_ne (Ne.symm hj)]) rs.mos (fun j a _ e => rs.nmo j a e) (fun _ z => nomatch z) ⟨rfl, x, ?_, r.kp (.sub sub)⟩
  rw [List.getElem?_set_self (by rw [← rs.len]; exact hi)]
theorem setO_less {i : Nat} {j : Nat} {a : Addr} (h : setO own i none j = some a) : own j = some a := by
  unfold setO at h
  by_cases hj : j = i
  · rw [if_pos hj] at h; cases h
  · rw [if_neg hj] at h; exact h
theorem Keep.less_own (h : ∀ j a, own' j = some a → own j = some a) : Keep Mo own H own' H [] :=
  ⟨fun u o e n => ⟨⟨o, e, .refl⟩, fun i z => n i (h i u z)⟩, fun u o _ e => e, fun u o e => ⟨o, e⟩, by simp⟩
end
/-- a target's reading -/
def gT (K : PySem.W.Frag) (w : World) (t : T) : TG := fun v σ H Q => ∃ Mo L own env env' val, RS K w Mo L own H σ env ∧ Rep K w (NN Mo own) H val v ∧ bindT t val env = some env' ∧
  ∀ σ' own', RS K w Mo L own' H σ' env' → (∀ j a, own' j = some a → own j = some a) → σ'.length = σ.length → (∀ j, j ∉ slotsT t → σ'[j]? = σ[j]?) → Q σ' H
def gTs (K : PySem.W.Frag) (w : World) (t : T) : TGs := fun vs σ H Q => ∃ Mo L own env env' l, RS K w Mo L own H σ env ∧ RepL K w (NN Mo own) H l vs ∧ bindT.bindTs t l env = some env' ∧
  ∀ σ' own', RS K w Mo L own' H σ' env' → (∀ j a, own' j = some a → own j = some a) → σ'.length = σ.length → (∀ j, j ∉ slotsT t → σ'[j]? = σ[j]?) → Q σ' H
theorem _root_.L2.PG.weak {X : Cx} {e : Expr} {t t' : TG} (h : PG X e t) (k : ∀ v σ H Q, t' v σ H Q → t v σ H Q) : PG X e t' := ⟨fun pins s σ H v u Q I r q => h.run pins s σ H v u Q I r (k v σ H Q q)⟩
theorem _root_.L2.PGs.weak {X : Cx} {e : List Expr} {t t' : TGs} (h : PGs X e t) (k : ∀ v σ H Q, t' v σ H Q → t v σ H Q) : PGs X e t' := ⟨fun pins s σ H v u Q I r q => h.run pins s σ H v u Q I r (k v σ H Q q)⟩
theorem _root_.L2.PI.weak {X : Cx} {tg e : Expr} {t t' : TI} (h : PI X tg e t) (k : ∀ σ H R, t' σ H R → t σ H R) : PI X tg e t' := ⟨fun pins s σ H R I q => h.run pins s σ H R I (k σ H R q)⟩
theorem ixOf_get : ∀ {x : Str} {l : List Str} {n i : Nat}, ixOf x l n = some i → n ≤ i ∧ l[i - n]? = some x
  | x, [], n, i, h => by simp [ixOf] at h
  | x, y :: r, n, i, h => by
    unfold ixOf at h
    split at h
    · rename_i e; cases h; subst e; simp
    · obtain ⟨h1, h2⟩ := ixOf_get h
      refine ⟨by omega, ?_⟩
      have : i - n = (i - (n + 1)) + 1 := by omega
      rw [this, List.getElem?_cons_succ]; exact h2
section
variable {X : Cx}
theorem RS.lenN {K : PySem.W.Frag} {w : World} {Mo : AP1} {L : Option Addr} {own : Ow} {H : Hp} {σ : L2.St} {env : Env} (rs : RS K w Mo L own H σ env) : env.length = σ.length := rs.len
theorem g_name {x : Str} {p : Pos} {i : Nat} (hN : X.N.Nodup) (hi : X.N[i]? = some x) (hx : Loc X.env.scope x) (hf : X.fn x = true ∨ X.env.scope.names.lookup x = some .local) : PG X (.Name x p) (gT X.K X.w (.name i)) := by
  refine ⟨fun pins s σ H v u Q I r h => ?_⟩
  refine (pg_name hN hi hx hf).run pins s σ H v u Q I r ?_
  obtain ⟨Mo, L, own, env, env', val, rs, rv, e, q⟩ := h
  have hl : i < env.length := by
    rw [rs.len, I.len]
    exact (List.getElem?_eq_some_iff.mp hi).1
  simp only [bindT] at e
  split at e
  · cases e
  · cases e
    refine q _ _ (rs.bind hl rv) (fun j a => setO_less) (by simp) fun j hj => ?_
    rw [List.getElem?_set_ne]
    intro z; subst z
    exact hj (by simp [slotsT])
theorem assignEach_plain {e : Expr} {r : List Expr} {env : PySem.Env} (h : ∀ x p, e ≠ .Starred x p) : assignEach (e :: r) env = (false, assign e env) :: assignEach r env := by
  cases e <;> first | rfl | exact absurd rfl (h _ _)
theorem compT_ns {c : Ctx} {n : Nat} {e : Expr} {t : T} (h : compT c n e = some t) : ∀ x p, e ≠ .Starred x p := by
  rintro x p rfl
  cases n <;> simp [compT] at h
theorem compT_ok {c : Ctx} (hN : X.N = c.N) (hsc : X.env.scope = c.sc) (nd : X.N.Nodup) (hc : X.calm = true) : ∀ (n : Nat) (e : Expr) (t : T), compT c n e = some t → (∀ x ∈ namesT n e, X.fn x = true ∨ X.env.scope.names.lookup x = some .local) → PG X e (gT X.K X.w t) := by
  intro n
  induction n with
  | zero =>
    intro e t h hf
    unfold compT at h
    split at h
    · rename_i x p
      split at h
      · rename_i hl
        split at h
        · rename_i i hi
          cases h
          obtain ⟨_, h2⟩ := ixOf_get hi
          refine g_name nd (by rw [hN]; simpa using h2) ?_ (hf x (by simp [namesT]))
          unfold isLoc at hl
          rw [hsc]
          split at hl
          · exact .inl (by assumption)
          · exact .inr (by assumption)
          · cases hl
        · cases h
      · cases h
    · rename_i hn; cases hn
    · cases h
  | succ n ih =>
    intro e t h hf
    unfold compT at h
    split at h
    · rename_i x p
      split at h
      · rename_i hl
        split at h
        · rename_i i hi
          cases h
          obtain ⟨_, h2⟩ := ixOf_get hi
          refine g_name nd (by rw [hN]; simpa using h2) ?_ (hf x (by simp [namesT]))
          unfold isLoc at hl
          rw [hsc]
          split at hl
          · exact .inl (by assumption)
          · exact .inr (by assumption)
          · cases hl
        · cases h
      · cases h
    · rename_i n' es k p hn
      cases hn
      split at h
      · rename_i t' ht
        cases h
        have all : ∀ (es : List Expr) (t : T), compT.compTs c n es = some t → (∀ x ∈ es.flatMap (namesT n), X.fn x = true ∨ X.env.scope.names.lookup x = some .local) →
            PGs X es (gTs X.K X.w t) ∧ (assignEach es X.env).length = es.length ∧ (assignEach es X.env).findIdx? (·.1) = none ∧ ∀ l env env', bindT.bindTs t l env = some env' → l.length = es.length := by
          intro es
          induction es with
          | nil =>
            intro t h hf
            unfold compT.compTs at h
            cases h
            refine ⟨pgs_nil.weak ?_, rfl, rfl, fun l env env' h => ?_⟩
            · rintro v σ H Q ⟨Mo, L, own, env, env', l, rs, rl, e, q⟩
              cases l with
              | nil =>
                simp only [RepL] at rl
                simp only [bindT.bindTs, Option.some.injEq] at e
                subst e
                exact ⟨rl, q σ own rs (fun _ _ e => e) rfl (fun _ _ => rfl)⟩
              | cons _ _ => simp [bindT.bindTs] at e
            · cases l with
              | nil => rfl
              | cons _ _ => simp [bindT.bindTs] at h
          | cons e r ihr =>
            intro t h hf
            unfold compT.compTs at h
            split at h
            · rename_i h1 t1 e1 e2
              cases h
              simp only [List.flatMap_cons, List.mem_append] at hf
              obtain ⟨g2, l2, f2, b2⟩ := ihr t1 e2 fun x hx => hf x (.inr hx)
              have g1 := ih e h1 e1 fun x hx => hf x (.inl hx)
              have ap := assignEach_plain (r := r) (env := X.env) (compT_ns e1)
              refine ⟨(pgs_cons g1 g2 (by rw [ap]; rfl)).weak ?_, by rw [ap]; simp [l2], by rw [ap]; simp [List.findIdx?_cons, f2], fun l env env' h => ?_⟩
              · rintro v σ H Q ⟨Mo, L, own, env, env', l, rs, rl, e, q⟩
                cases l with
                | nil => simp [bindT.bindTs] at e
                | cons a l =>
                  simp only [bindT.bindTs] at e
                  split at e
                  · rename_i env1 e1
                    simp only [RepL] at rl
                    obtain ⟨x, xs, rfl, r1, r2⟩ := rl
                    refine ⟨x, xs, rfl, Mo, L, own, env, env1, a, rs, r1, e1, fun σ' own' rs' lo ll ls => ?_⟩
                    refine ⟨Mo, L, own', env1, env', l, rs', r2.kp (.sub ?_), e, fun σ2 own2 rs2 lo2 ll2 ls2 => ?_⟩
                    · rintro b (z | ⟨j, z⟩)
                      · exact .inl z
                      · exact .inr ⟨j, lo j b z⟩
                    · refine q σ2 own2 rs2 (fun j a z => lo j a (lo2 j a z)) (ll2.trans ll) fun j hj => ?_
                      simp only [slotsT, List.mem_append, not_or] at hj
                      rw [ls2 j hj.2, ls j hj.1]
                  · cases e
              · cases l with
                | nil => simp [bindT.bindTs] at h
                | cons a l =>
                  simp only [bindT.bindTs] at h
                  split at h
                  · simp [b2 _ _ _ h]
                  · cases h
            · cases h
        obtain ⟨g, l, f, b⟩ := all es t' ht (by intro x hx; exact hf x (by simpa [namesT] using hx))
        refine (pg_tup (n := es.length) hc g l f).weak ?_
        rintro v σ H Q ⟨Mo, L, own, env, env', val, rs, rv, e, q⟩
        unfold bindT at e
        split at e
        · cases ‹T.tup _ = T.name _›
        · rename_i t2 l2 env2 h1
          cases h1
          obtain ⟨a, xs, rfl, ha, z, rl⟩ := rv.tup
          refine ⟨a, xs, rfl, ha.sq, ?_, Mo, L, own, _, env', _, rs, rl, e, fun σ' own' rs' lo ll ls => q σ' own' rs' lo ll fun j hj => ls j (by simpa [slotsT] using hj)⟩
          rw [rl.length]
          exact b _ _ _ e
        · cases e
      · cases h
    · cases h
end
end Q

end
section
set_option Elab.async false
set_option linter.all false
set_option maxRecDepth 100000
/-! Q: comprehensions. -/
namespace Q
open PySem PySem.Spec PyProof.Rows L2
/-- J walks what l is -/
def ItOk (K : PySem.W.Frag) (w : World) (N1 : AP1) (H1 : Hp) (J : It) (l : List Val) : Prop := ∀ i N' H', Kp N1 H1 N' H' → (∀ a, N' a → ∃ o, H' a = some o) →
  (l.length = i → J.stop i H') ∧ ∀ v, l[i]? = some v → J.go i H' ∧ ∀ x H'', J.yld i H' x H'' → (∀ a o, H' a = some o → H'' a = some o) ∧ Rep K w N' H'' v x
def iI (K : PySem.W.Frag) (w : World) (cl : Cl) (e : E) : TI := fun σ H R => ∃ Mo L own env l env', RS K w Mo L own H σ env ∧ itR (ev cl e env) = some (l, env') ∧
  ∀ J H' own', l.length ≤ sizeLine → Mid K w Mo L own H σ own' [] H' env' → ItOk K w (NN Mo own') H' J l → R J H'
/-! ### wiped slots -/
theorem wipe_at (σ : L2.St) : ∀ (vs : List Nat) (j : Nat), j ∉ vs → (wipe σ vs)[j]? = σ[j]?
  | [], _, _ => rfl
  | v :: vs, j, h => by
    simp only [List.mem_cons, not_or] at h
    unfold wipe
    rw [List.getElem?_set_ne (Ne.symm h.1)]
    exact wipe_at σ vs j h.2
theorem wipe_in (σ : L2.St) : ∀ (vs : List Nat) (j : Nat), j ∈ vs → ∀ y, (wipe σ vs)[j]? ≠ some (some y)
  | v :: vs, j, h, y, e => by
    unfold wipe at e
    by_cases hj : v = j
    · subst hj
      by_cases hl : v < (wipe σ vs).length
      · rw [List.getElem?_set_self hl] at e; cases e
      · rw [List.getElem?_eq_none (by simpa using hl)] at e; cases e
    · rw [List.getElem?_set_ne hj] at e
      rcases List.mem_cons.mp h with h | h
      · exact hj h.symm
      · exact wipe_in σ vs j h y e
theorem wipe_eq {σ σ2 : L2.St} {vs : List Nat} (hl : σ2.length = σ.length) (h : ∀ j, j ∉ vs → σ2[j]? = σ[j]?) : wipe σ2 vs = wipe σ vs := by
  induction vs generalizing σ σ2 with
  | nil => exact List.ext_getElem? fun j => h j (by simp)
  | cons v vs ih =>
    apply List.ext_getElem?
    intro j
    by_cases hj : j ∈ v :: vs
    · by_cases hlt : j < σ.length
      · have e1 : (wipe σ2 (v :: vs))[j]? = some none := by
          have l1 : j < (wipe σ2 (v :: vs)).length := by rw [wipe_length, hl]; exact hlt
          rw [List.getElem?_eq_getElem l1]
          cases e : (wipe σ2 (v :: vs))[j] with
          | none => rfl
          | some y => exact absurd (by rw [List.getElem?_eq_getElem l1, e]) (wipe_in σ2 _ j hj y)
        have e2 : (wipe σ (v :: vs))[j]? = some none := by
          have l1 : j < (wipe σ (v :: vs)).length := by rw [wipe_length]; exact hlt
          rw [List.getElem?_eq_getElem l1]
          cases e : (wipe σ (v :: vs))[j] with
          | none => rfl
          | some y => exact absurd (by rw [List.getElem?_eq_getElem l1, e]) (wipe_in σ _ j hj y)
        rw [e1, e2]
      · rw [List.getElem?_eq_none (by rw [wipe_length, hl]; omega), List.getElem?_eq_none (by rw [wipe_length]; omega)]
    · rw [wipe_at _ _ _ hj, wipe_at _ _ _ hj]
      exact h j hj
theorem clearE_len : ∀ (vs : List Nat) (env : Env), (clearE vs env).length = env.length
  | [], _ => rfl
  | v :: vs, env => by unfold clearE; rw [clearE_len vs, eset_len]
theorem clearE_at : ∀ (vs : List Nat) (env : Env) (j : Nat), j ∉ vs → eget (clearE vs env) j = eget env j
  | [], _, _, _ => rfl
  | v :: vs, env, j, h => by
    simp only [List.mem_cons, not_or] at h
    unfold clearE
    rw [clearE_at vs _ j h.2, eget_ne _ _ _ _ h.1]
theorem eget_none_of_ge : ∀ (env : Env) (j : Nat), env.length ≤ j → eget env j = none
  | [], _, _ => rfl
  | _ :: r, 0, h => by simp at h
  | _ :: r, j + 1, h => by simp only [eget]; exact eget_none_of_ge r j (by simpa using h)
theorem clearE_in : ∀ (vs : List Nat) (env : Env) (j : Nat), j ∈ vs → eget (clearE vs env) j = none
  | v :: vs, env, j, h => by
    unfold clearE
    by_cases hj : j ∈ vs
    · exact clearE_in vs _ j hj
    · rw [clearE_at vs _ j hj]
      rcases List.mem_cons.mp h with h | h
      · subst h
        by_cases hl : j < env.length
        · exact eget_same env j none hl
        · exact eget_none_of_ge _ j (by rw [eset_len]; omega)
      · exact absurd h hj
theorem backE_len (old : Env) : ∀ (vs : List Nat) (env : Env), (backE old vs env).length = env.length
  | [], _ => rfl
  | v :: vs, env => by unfold backE; rw [backE_len old vs, eset_len]
theorem backE_at (old : Env) : ∀ (vs : List Nat) (env : Env) (j : Nat), j ∉ vs → eget (backE old vs env) j = eget env j
  | [], _, _, _ => rfl
  | v :: vs, env, j, h => by
    simp only [List.mem_cons, not_or] at h
    unfold backE
    rw [backE_at old vs _ j h.2, eget_ne _ _ _ _ h.1]
theorem backE_in (old : Env) : ∀ (vs : List Nat) (env : Env) (j : Nat), j ∈ vs → j < env.length → eget (backE old vs env) j = eget old j
  | v :: vs, env, j, h, hl => by
    unfold backE
    by_cases hj : j ∈ vs
    · exact backE_in old vs _ j hj (by rw [eset_len]; exact hl)
    · rw [backE_at old vs _ j hj]
      rcases List.mem_cons.mp h with h | h
      · subst h; exact eget_same env j _ hl
      · exact absurd h hj
theorem noOwn_at : ∀ {vs : List Nat} {env : Env} {j : Nat}, noOwn vs env = true → j ∈ vs → eget env j = none ∨ ∃ v, eget env j = some (v, .sh)
  | v :: vs, env, j, h, hj => by
    unfold noOwn at h
    rw [Bool.and_eq_true] at h
    rcases List.mem_cons.mp hj with e | hj
    · subst e
      cases e : eget env j with
      | none => exact .inl rfl
      | some s =>
        obtain ⟨v, k⟩ := s
        rw [e] at h
        cases k
        · exact .inr ⟨v, rfl⟩
        · simp at h
        · simp at h
    · exact noOwn_at h.2 hj
section
variable {K : PySem.W.Frag} {w : World} {Mo Mo' : AP1} {L : Option Addr} {own own' own1 own2 : Ow} {H H' H1 H2 : Hp} {σ σ' : L2.St} {env env' env1 env2 : Env} {A A1 A2 : List Addr} {vs : List Nat}
theorem RS.wipe (rs : RS K w Mo L own H σ env) (h : noOwn vs env = true) : RS K w Mo L own H (L2.wipe σ vs) (clearE vs env) := by
  refine ⟨by rw [clearE_len, wipe_length]; exact rs.len, rs.inj, rs.nmo, rs.mos, fun j => ?_⟩
  by_cases hj : j ∈ vs
  · rw [clearE_in vs env j hj]
    show own j = none
    have s := rs.slot j
    rcases noOwn_at h hj with e | ⟨v, e⟩
    · rw [e] at s; exact s
    · rw [e] at s; exact s.1
  · rw [clearE_at vs env j hj, wipe_at σ vs j hj]
    exact rs.slot j
theorem RS.back (rs : RS K w Mo L own H σ env) (h : noOwn vs env = true) (r2 : RS K w Mo' L own' H' (L2.wipe σ vs) (clearE vs env')) (k : Kp (NN Mo own) H (NN Mo' own') H') : RS K w Mo' L own' H' σ (backE env vs env') := by
  have el : env'.length = σ.length := by have := r2.len; rw [clearE_len, wipe_length] at this; exact this
  refine ⟨by rw [backE_len]; exact el, r2.inj, r2.nmo, r2.mos, fun j => ?_⟩
  by_cases hj : j ∈ vs
  · have s2 := r2.slot j
    rw [clearE_in vs env' j hj] at s2
    have on : own' j = none := s2
    by_cases hl : j < env'.length
    · rw [backE_in env vs env' j hj hl, on]
      have s := rs.slot j
      rcases noOwn_at h hj with e | ⟨v, e⟩
      · rw [e]; rfl
      · rw [e] at s ⊢
        obtain ⟨_, y, e2, r⟩ := s
        exact ⟨rfl, y, e2, r.kp k⟩
    · rw [eget_none_of_ge _ j (by rw [backE_len]; omega), on]; rfl
  · have s2 := r2.slot j
    rw [clearE_at vs env' j hj, wipe_at σ vs j hj] at s2
    rw [backE_at env vs env' j hj]
    exact s2
/-- slots of the comprehension's own made empty -/
theorem RS.clear (rs : RS K w Mo L own H σ' env) (hs : ∀ j ∈ vs, own j = none) (hl : σ.length = σ'.length) (h : ∀ j, j ∉ vs → σ'[j]? = σ[j]?) : RS K w Mo L own H (L2.wipe σ vs) (clearE vs env) := by
  refine ⟨by rw [clearE_len, wipe_length, hl]; exact rs.len, rs.inj, rs.nmo, rs.mos, fun j => ?_⟩
  by_cases hj : j ∈ vs
  · rw [clearE_in vs env j hj]; exact hs j hj
  · rw [clearE_at vs env j hj, wipe_at σ vs j hj, ← h j hj]
    exact rs.slot j
end
theorem clearE_clearE : ∀ (vs : List Nat) (env : Env), clearE vs (clearE vs env) = clearE vs env := by
  intro vs env
  have ext : ∀ {a b : Env}, a.length = b.length → (∀ j, eget a j = eget b j) → a = b := by
    intro a
    induction a with
    | nil => intro b hl _; cases b with
      | nil => rfl
      | cons _ _ => simp at hl
    | cons x a ih => intro b hl h; cases b with
      | nil => simp at hl
      | cons y b =>
        have e := h 0
        simp only [eget] at e
        subst e
        rw [ih (by simpa using hl) fun j => by simpa [eget] using h (j + 1)]
  refine ext (by rw [clearE_len]) fun j => ?_
  by_cases hj : j ∈ vs
  · rw [clearE_in _ _ _ hj, clearE_in _ _ _ hj]
  · rw [clearE_at _ _ _ hj]
/-- the ifs -/
def PTk (X : Cx) (cl : Cl) (ifs : List Expr) (c : E) : Prop := PTs X ifs (tTt X.K X.w cl c)
section
variable {X : Cx} {cl : Cl}
theorem pts_true : PTs X [] (tTt X.K X.w cl (.const (.bool true))) := by
  have : PTs X [] (fun σ H Q => Q true H) := pts_nil
  refine ⟨fun pins s σ H Q I h => this.run pins s σ H Q I ?_⟩
  obtain ⟨Mo, L, own, env, b, env', rs, e, q⟩ := h
  simp only [ev, boolR, Option.some.injEq, Prod.mk.injEq] at e
  obtain ⟨rfl, rfl⟩ := e
  exact q H own (.refl rs)
end
section
variable {K : PySem.W.Frag} {w : World} {Mo : AP1} {L : Option Addr} {own own' own1 own2 : Ow} {H H' H1 H2 : Hp} {σ : L2.St} {env env' env1 env2 : Env} {A A1 A2 : List Addr} {vs : List Nat} {D : Addr}
/-- more objects, nothing else -/
theorem Keep.grow (h : ∀ a o, H a = some o → H' a = some o) : Keep Mo own H own H' [] := ⟨fun u o e n => ⟨⟨o, h u o e, .refl⟩, n⟩, fun u o _ e => h u o e, fun u o e => ⟨o, h u o e⟩, by simp⟩
theorem RS.grow0 (rs : RS K w Mo L own H σ env) (h : ∀ a o, H a = some o → H' a = some o) : RS K w Mo L own H' σ env :=
  rs.grow h (fun _ z => z) (fun _ z => .inl z) fun a z => let ⟨o, e⟩ := rs.mos a z; ⟨o, h a o e⟩
/-- a thing that nobody looks at is changed -/
theorem RS.hide (rs : RS K w (ad Mo [D]) L own H σ env) {o : HO} : RS K w (ad Mo [D]) L own (upd H D o) σ env := by
  have hD : ∀ i a, own i = some a → a ≠ D := fun i a e z => rs.nmo i a e (.inr (by simp [z]))
  have k : Kp (NN (ad Mo [D]) own) H (NN (ad Mo [D]) own) (upd H D o) := fun a u e n => ⟨⟨u, by rw [upd_ne (fun z => n (.inl (.inr (by simp [z]))))]; exact e, .refl⟩, n⟩
  refine ⟨rs.len, rs.inj, rs.nmo, fun a z => ?_, fun i => (rs.slot i).kp k fun a e u q => by rw [upd_ne (hD i a e)]; exact q⟩
  by_cases hd : a = D
  · subst hd; exact ⟨o, upd_same⟩
  · obtain ⟨u, e⟩ := rs.mos a z; exact ⟨u, by rw [upd_ne hd]; exact e⟩
theorem Keep.updNew (k : Keep Mo own H own' H' A) {o : HO} (hn : H D = none) : Keep Mo own H own' (upd H' D o) A := by
  have ne : ∀ u x, H u = some x → u ≠ D := fun u x e => ne_of_none e hn
  refine ⟨fun u x e n => ?_, fun u x m e => ?_, fun u x e => ?_, k.new⟩
  · obtain ⟨⟨o', e', l⟩, n'⟩ := k.kept u x e n
    exact ⟨⟨o', by rw [upd_ne (ne u x e)]; exact e', l⟩, n'⟩
  · rw [upd_ne (ne u x e)]; exact k.strict u x m e
  · obtain ⟨o', e'⟩ := k.there u x e
    exact ⟨o', by rw [upd_ne (ne u x e)]; exact e'⟩
/-- what holds between two turns of a comprehension -/
structure WL (K : PySem.W.Frag) (w : World) (Mo : AP1) (L : Option Addr) (own1 : Ow) (H1 : Hp) (σ : L2.St) (vs : List Nat) (D : Addr) (own : Ow) (H : Hp) (env : Env) (acc : List Val) (ys : List V) : Prop where
  rs : RS K w (ad Mo [D]) L own H (L2.wipe σ vs) (clearE vs env)
  kp : Keep Mo own1 H1 own H [D]
  sub : ∀ j a, own j = some a → own1 j = some a
  at_ : H D = some (.lst ys)
  rep : RepL K w (NN (ad Mo [D]) own) H acc ys
theorem WL.start (m : RS K w Mo L own1 H1 σ env1) (h : noOwn vs env1 = true) (hD : H1 D = none) : WL K w Mo L own1 H1 σ vs D own1 (upd H1 D (.lst [])) env1 [] [] :=
  ⟨((Mid.alloc m hD).rs).wipe h, .alloc hD, fun _ _ e => e, upd_same, RepL.nil⟩
theorem WL.kpOf (W : WL K w Mo L own1 H1 σ vs D own H env acc ys) : Kp (NN Mo own1) H1 (NN (ad Mo [D]) own) H := W.kp.kp
/-- one more item -/
theorem WL.next {acc : List Val} {ys : List V} {v : Val} {y : V} (W : WL K w Mo L own1 H1 σ vs D own H env acc ys) (h1 : H1 D = none) {σ2 : L2.St} (hl : σ.length = σ2.length) (ha : ∀ j, j ∉ vs → σ2[j]? = σ[j]?)
    (m : RS K w (ad Mo [D]) L own2 H2 σ2 env2) (k : Keep (ad Mo [D]) own H own2 H2 []) (sub : ∀ j a, own2 j = some a → own j = some a) (r : Rep K w (NN (ad Mo [D]) own2) H2 v y) :
    H2 D = some (.lst ys) ∧ WL K w Mo L own1 H1 σ vs D own2 (upd H2 D (.lst (ys ++ [y]))) env2 (acc ++ [v]) (ys ++ [y]) := by
  have hk : Kp (NN (ad Mo [D]) own2) H2 (NN (ad Mo [D]) own2) (upd H2 D (.lst (ys ++ [y]))) := fun a u e n => ⟨⟨u, by rw [upd_ne (fun z => n (.inl (.inr (by simp [z]))))]; exact e, .refl⟩, n⟩
  have e2 : H2 D = some (.lst ys) := k.strict D _ (.inr (by simp)) W.at_
  refine ⟨e2, ⟨?_, ?_, fun j a e => W.sub j a (sub j a e), upd_same, ?_⟩⟩
  · refine RS.clear (m.hide) (fun j hj => ?_) hl ha
    cases e : own2 j with
    | none => rfl
    | some a =>
      have q := W.rs.slot j
      rw [clearE_in vs env j hj] at q
      have q : own j = none := q
      rw [sub j a e] at q; cases q
  · have := W.kp.trans (fun u z => (.inl z : ad Mo [D] u)) k
    rw [List.append_nil] at this
    exact this.updNew h1
  · exact ((W.rep.kp k.kp0).append (RepL.cons r RepL.nil)).kp hk
/-- an item left out -/
theorem WL.skip {acc : List Val} {ys : List V} (W : WL K w Mo L own1 H1 σ vs D own H env acc ys) {σ2 : L2.St} (hl : σ.length = σ2.length) (ha : ∀ j, j ∉ vs → σ2[j]? = σ[j]?)
    (m : RS K w (ad Mo [D]) L own2 H2 σ2 env2) (k : Keep (ad Mo [D]) own H own2 H2 []) (sub : ∀ j a, own2 j = some a → own j = some a) :
    WL K w Mo L own1 H1 σ vs D own2 H2 env2 acc ys := by
  refine ⟨?_, ?_, fun j a e => W.sub j a (sub j a e), k.strict D _ (.inr (by simp)) W.at_, W.rep.kp k.kp0⟩
  · refine RS.clear m (fun j hj => ?_) hl ha
    cases e : own2 j with
    | none => rfl
    | some a =>
      have q := W.rs.slot j
      rw [clearE_in vs env j hj] at q
      have q : own j = none := q
      rw [sub j a e] at q; cases q
  · have := W.kp.trans (fun u z => (.inl z : ad Mo [D] u)) k
    rw [List.append_nil] at this
    exact this
/-- the end -/
theorem WL.done {acc : List Val} {ys : List V} (W : WL K w Mo L own1 H1 σ vs D own H env acc ys) (m : Mid K w Mo L own' H' σ own1 [] H1 env1) (h : noOwn vs env1 = true) (hz : acc.length ≤ sizeLine) :
    PostE K w Mo L own' H' σ (.lst acc, true) (backE env1 vs env) (.ref D) H := by
  have rs := RS.back m.rs0 h W.rs W.kpOf
  have kp : Keep Mo own' H' own H ([] ++ [D]) := m.kp.trans (fun _ z => z) W.kp
  rw [List.nil_append] at kp
  refine ⟨own, [D], ⟨rs, kp, fun a ha z => ?_, fun j a e => m.sub j a (W.sub j a e)⟩, D, rfl, rfl, ys, W.at_, hz, W.rep⟩
  simp at ha; subst ha
  obtain ⟨o, e⟩ := m.rs0.mos a z
  rcases W.kp.new a (by simp) with q | ⟨i, q⟩
  · rw [e] at q; cases q
  · exact m.rs0.nmo i a q z
end
section
variable {X : Cx} {cl : Cl}
theorem comp_turns {K : PySem.W.Frag} {w : World} {Mo : AP1} {L : Option Addr} {own1 : Ow} {H1 : Hp} {σ : L2.St} {D : Addr} {t : T} {e c : E} {l : List Val} {accF : List Val} {envF : Env} {J : It} {Qd : Hp → Prop}
    (hJ : ItOk K w (NN Mo own1) H1 J l) (hD : H1 D = none) (n0 : Nat) (hn0 : n0 + l.length ≤ sizeLine) (vs : List Nat) (hvs : ∀ j, j ∈ slotsT t → j ∈ vs)
    (hd : ∀ own H ys, WL K w Mo L own1 H1 σ vs D own H envF accF ys → Qd H) :
    ∀ i m H, (∃ own env acc ys, WL K w Mo L own1 H1 σ vs D own H env acc ys ∧ acc.length ≤ n0 + i ∧ i ≤ l.length ∧ m = l.length - i ∧ compLoop vs t (fun env => boolR (ev cl c env)) (fun env => ev cl e env) (l.drop i) env acc = some (accF, envF)) →
      (J.stop i H ∧ Qd H) ∨ (J.go i H ∧ ∃ Nx : Hp → Prop, (∀ H', Nx H' → ∃ m', m' < m ∧ ∃ own env acc ys, WL K w Mo L own1 H1 σ vs D own H' env acc ys ∧ acc.length ≤ n0 + (i + 1) ∧ i + 1 ≤ l.length ∧ m' = l.length - (i + 1) ∧ compLoop vs t (fun env => boolR (ev cl c env)) (fun env => ev cl e env) (l.drop (i + 1)) env acc = some (accF, envF)) ∧
        ∀ x H', J.yld i H x H' → gT K w t x (L2.wipe σ vs) H' fun σ2 H2 => L2.wipe σ2 vs = L2.wipe σ vs ∧ tTt K w cl c σ2 H2 fun b H3 =>
          if b = true then tI K w cl e σ2 H3 fun y H4 => ∃ acc, H4 D = some (.lst acc) ∧ acc.length < sizeLine ∧ Nx (upd H4 D (.lst (acc ++ [y]))) else Nx H3) := by
  rintro i m H ⟨own, env, acc, ys, W, hacc, hi, rfl, hC⟩
  have hN : ∀ a, NN (ad Mo [D]) own a → ∃ o, H a = some o := fun a z => W.rs.nn_some z
  obtain ⟨js, jg⟩ := hJ i _ H W.kpOf hN
  by_cases hlt : i < l.length
  · have hv : l[i]? = some l[i] := List.getElem?_eq_getElem hlt
    obtain ⟨g, hy⟩ := jg _ hv
    refine .inr ⟨g, fun H' => ∃ own env acc ys, WL K w Mo L own1 H1 σ vs D own H' env acc ys ∧ acc.length ≤ n0 + (i + 1) ∧ compLoop vs t (fun env => boolR (ev cl c env)) (fun env => ev cl e env) (l.drop (i + 1)) env acc = some (accF, envF),
      fun H' ⟨o, en, ac, y, q1, q2, q3⟩ => ⟨l.length - (i + 1), by omega, o, en, ac, y, q1, q2, hlt, rfl, q3⟩, fun x H' hyl => ?_⟩
    obtain ⟨gr, rx⟩ := hy x H' hyl
    rw [List.drop_eq_getElem_cons hlt] at hC
    simp only [compLoop] at hC
    have rs' := W.rs.grow0 gr
    have kg : Keep (ad Mo [D]) own H own H' [] := .grow gr
    split at hC
    · cases hC
    · rename_i env2 e2
      refine ⟨_, L, own, clearE vs env, env2, _, rs', rx, e2, fun σ2 own2 rs2 lo ll ls => ?_⟩
      have ls' : ∀ j, j ∉ vs → σ2[j]? = σ[j]? := fun j hj => by rw [ls j (fun z => hj (hvs j z)), wipe_at σ vs j hj]
      have ll' : σ2.length = σ.length := by rw [ll, wipe_length]
      have k2 : Keep (ad Mo [D]) own H own2 H' [] := by
        have := kg.trans (fun _ z => z) (Keep.less_own (H := H') (Mo := ad Mo [D]) lo)
        simpa using this
      refine ⟨wipe_eq ll' ls', ?_⟩
      split at hC
      · cases hC
      · rename_i env3 e3
        refine .go rs2 e3 fun H3 own3 m3 => ?_
        simp only [Bool.false_eq_true, if_false]
        have k3 : Keep (ad Mo [D]) own H own3 H3 [] := by
          have := k2.trans (fun _ z => z) m3.kp
          simpa using this
        exact ⟨own3, env3, acc, ys, W.skip ll'.symm ls' m3.rs0 k3 (fun j a z => lo j a (m3.sub j a z)), by omega, hC⟩
      · rename_i env3 e3
        split at hC
        · cases hC
        · rename_i r env4 e4
          refine .go rs2 e3 fun H3 own3 m3 => ?_
          simp only [if_true]
          refine ⟨_, L, own3, env3, r, env4, m3.rs0, e4, fun y H4 p => ?_⟩
          obtain ⟨own4, m4, r4⟩ := p.mid
          have k4 : Keep (ad Mo [D]) own H own4 H4 [] := by
            have := (k2.trans (fun _ z => z) m3.kp).trans (fun _ z => z) m4.kp
            simpa using this
          obtain ⟨eD, W'⟩ := W.next hD ll'.symm ls' m4.rs0 k4 (fun j a z => lo j a (m3.sub j a (m4.sub j a z))) r4
          exact ⟨ys, eD, by rw [W.rep.length]; omega, own4, env4, _, _, W', by simp; omega, hC⟩
  · have e1 : i = l.length := by omega
    subst e1
    refine .inl ⟨js rfl, ?_⟩
    rw [List.drop_length] at hC
    simp only [compLoop, Option.some.injEq, Prod.mk.injEq] at hC
    obtain ⟨rfl, rfl⟩ := hC
    exact hd own H ys W
theorem compLoop_len {vs : List Nat} {t : T} {c : Env → Option (Bool × Env)} {f : Env → Option (Res × Env)} {accF : List Val} {envF : Env} : ∀ {l : List Val} {env : Env} (acc : List Val), compLoop vs t c f l env acc = some (accF, envF) → accF.length ≤ acc.length + l.length
  | [], env, acc, h => by
    simp only [compLoop, Option.some.injEq, Prod.mk.injEq] at h
    obtain ⟨rfl, _⟩ := h
    simp
  | v :: r, env, acc, h => by
    simp only [compLoop] at h
    split at h
    · cases h
    · split at h
      · cases h
      · have := compLoop_len acc h
        simp; omega
      · split at h
        · cases h
        · have := compLoop_len _ h
          simp at this ⊢; omega
theorem lc_read {e c it : E} {t : T} : ∀ σ H Q, tI X.K X.w cl (.comp e t it c) σ H Q → tLc (iI X.K X.w cl it) (gT X.K X.w t) (tTt X.K X.w cl c) (tI X.K X.w cl e) (slotsT t) σ H Q := by
  rintro σ H Q ⟨Mo, L, own, env, r, env', rs, e1, q⟩
  simp only [ev] at e1
  split at e1
  · rename_i l env1 e2
    split at e1
    · rename_i hno
      split at e1
      · rename_i accF envF e3
        cases e1
        refine ⟨Mo, L, own, env, l, env1, rs, e2, fun J H1 own1 hz m hJ D hD => ?_⟩
        refine ⟨fun i m H => ∃ own env acc ys, WL X.K X.w Mo L own1 H1 σ (slotsT t) D own H env acc ys ∧ acc.length ≤ 0 + i ∧ i ≤ l.length ∧ m = l.length - i ∧ compLoop (slotsT t) t (fun env => boolR (ev cl c env)) (fun env => ev cl e env) (l.drop i) env acc = some (accF, envF),
          ⟨l.length, own1, env1, [], [], WL.start m.rs0 hno hD, Nat.le_refl _, Nat.zero_le _, rfl, e3⟩, ?_⟩
        refine comp_turns hJ hD 0 (by simpa using hz) (slotsT t) (fun _ z => z) fun own' H' ys W => ?_
        have hl := compLoop_len _ e3
        simp only [List.length_nil, Nat.zero_add] at hl
        exact q _ _ (W.done m hno (by omega))
      · cases e1
    · cases e1
  · cases e1
end
end Q

end
section
set_option Elab.async false
set_option linter.all false
set_option maxRecDepth 100000
/-! Q: what is walked. -/
namespace Q
open PySem PySem.Spec PyProof.Rows L2
section
variable {K : PySem.W.Frag} {w : World} {Mo : AP1} {L : Option Addr} {own own' own1 own2 : Ow} {H H' H1 H2 : Hp} {σ : L2.St} {env env' env1 env2 : Env} {N N1 : AP1}
theorem itR_some {r : Option (Res × Env)} {l : List Val} {env : Env} (h : itR r = some (l, env)) : ∃ x, r = some (x, env) ∧ itV x.1 = some l := by
  unfold itR at h
  split at h
  · split at h
    · cases h; exact ⟨_, rfl, by assumption⟩
    · cases h
  · cases h
theorem itOk_list {a : Addr} {xs : List V} {l : List Val} (h : ∀ N' H', Kp N1 H1 N' H' → SqL K H' a xs) (r : RepL K w N1 H1 l xs) : ItOk K w N1 H1 (Itl K a) l := by
  intro i N' H' k hN
  have hq := h N' H' k
  refine ⟨fun e => ⟨xs, hq, by rw [r.length, e]; exact Nat.le_refl _⟩, fun v hv => ?_⟩
  obtain ⟨x, hx, rx⟩ := (r.kp k).get hv
  refine ⟨⟨xs, x, hq, hx⟩, fun y H'' hy => ?_⟩
  obtain ⟨rfl, hy⟩ := hy
  have := hy xs hq
  rw [hx] at this
  cases this
  exact ⟨fun _ _ e => e, rx⟩
theorem itOk_tup {a : Addr} {xs : List V} {l : List Val} (h : ∀ N' H', Kp N1 H1 N' H' → SqT K H' a xs) (r : RepL K w N1 H1 l xs) : ItOk K w N1 H1 (Itt K a) l := by
  intro i N' H' k hN
  have hq := h N' H' k
  refine ⟨fun e => ⟨xs, hq, by rw [r.length, e]; exact Nat.le_refl _⟩, fun v hv => ?_⟩
  obtain ⟨x, hx, rx⟩ := (r.kp k).get hv
  refine ⟨⟨xs, x, hq, hx⟩, fun y H'' hy => ?_⟩
  obtain ⟨rfl, hy⟩ := hy
  have := hy xs hq
  rw [hx] at this
  cases this
  exact ⟨fun _ _ e => e, rx⟩
theorem rangeL_len : ∀ (n lo : Nat) (a c : Int), (rangeL lo n a c).length = n
  | 0, _, _, _ => rfl
  | n + 1, lo, a, c => by simp [rangeL, rangeL_len n (lo + 1) a c]
theorem rangeL_get : ∀ (n lo : Nat) (a c : Int) (i : Nat), i < n → (rangeL lo n a c)[i]? = some (.int (a + c * ((lo + i : Nat) : Int)))
  | n + 1, lo, a, c, 0, _ => by simp [rangeL]
  | n + 1, lo, a, c, i + 1, h => by
    simp only [rangeL, List.getElem?_cons_succ]
    rw [rangeL_get n (lo + 1) a c i (by omega)]
    have : lo + 1 + i = lo + (i + 1) := by omega
    rw [this]
theorem itOk_range {n : Nat} {a c : Int} : ItOk K w N1 H1 (Itc a c n) (rangeL 0 n a c) := by
  intro i N' H' k hN
  refine ⟨fun e => by rw [rangeL_len] at e; subst e; exact Nat.le_refl _, fun v hv => ?_⟩
  have hi : i < n := by
    have := (List.getElem?_eq_some_iff.mp hv).1
    rwa [rangeL_len] at this
  rw [rangeL_get n 0 a c i hi] at hv
  cases hv
  refine ⟨hi, fun x H'' hy => ?_⟩
  obtain ⟨rfl, rfl⟩ := hy
  refine ⟨fun _ _ e => e, ?_⟩
  rw [Nat.zero_add, Int.mul_comm]
  simp [Rep]
theorem itOk_range1 {n : Nat} {a : Int} : ItOk K w N1 H1 (Itr a n) (rangeL 0 n a 1) := by
  intro i N' H' k hN
  refine ⟨fun e => by rw [rangeL_len] at e; subst e; exact Nat.le_refl _, fun v hv => ?_⟩
  have hi : i < n := by
    have := (List.getElem?_eq_some_iff.mp hv).1
    rwa [rangeL_len] at this
  rw [rangeL_get n 0 a 1 i hi] at hv
  cases hv
  refine ⟨hi, fun x H'' hy => ?_⟩
  obtain ⟨rfl, rfl⟩ := hy
  refine ⟨fun _ _ e => e, ?_⟩
  rw [Nat.zero_add, Int.one_mul]
  simp [Rep]
/-- a new pair is what the pair of values is -/
theorem rep_new {T : Addr} {l : List Val} {xs : List V} (hN : ∀ a, N a → ∃ o, H a = some o) (hT : H T = none) (r : RepL K w N H l xs) (hz : l.length ≤ sizeLine) : Rep K w N (upd H T (.tup xs)) (.tup l) (.ref T) := by
  simp only [Rep]
  refine ⟨T, xs, rfl, .inl ⟨.inl upd_same, fun z => ?_⟩, hz, r.kp (.all (upd_keep hT) fun a _ z => z)⟩
  obtain ⟨o, e⟩ := hN T z
  rw [hT] at e; cases e
theorem enumL_get : ∀ (l : List Val) (n i : Nat), (enumL n l)[i]? = (l[i]?).map fun v => .tup [.int (n + i : Nat), v]
  | [], _, _ => by simp [enumL]
  | v :: r, n, 0 => by simp [enumL]
  | v :: r, n, i + 1 => by
    simp only [enumL, List.getElem?_cons_succ]
    rw [enumL_get r (n + 1) i]
    have : n + 1 + i = n + (i + 1) := by omega
    rw [this]
theorem enumL_len : ∀ (l : List Val) (n : Nat), (enumL n l).length = l.length
  | [], _ => rfl
  | v :: r, n => by simp [enumL, enumL_len r (n + 1)]
theorem itOk_enum {a : Addr} {xs : List V} {l : List Val} (h : ∀ N' H', Kp N1 H1 N' H' → SqL K H' a xs) (r : RepL K w N1 H1 l xs) : ItOk K w N1 H1 (Ite K a) (enumL 0 l) := by
  intro i N' H' k hN
  have hq := h N' H' k
  refine ⟨fun e => ⟨xs, hq, by rw [enumL_len] at e; rw [r.length, e]; exact Nat.le_refl _⟩, fun v hv => ?_⟩
  rw [enumL_get] at hv
  cases hl : l[i]? with
  | none => rw [hl] at hv; cases hv
  | some u =>
    rw [hl] at hv
    cases hv
    obtain ⟨x, hx, rx⟩ := (r.kp k).get hl
    refine ⟨⟨xs, x, hq, hx⟩, fun y H'' hy => ?_⟩
    obtain ⟨T, x', rfl, hT, rfl, hy⟩ := hy
    have := hy xs hq
    rw [hx] at this
    cases this
    refine ⟨upd_keep hT, rep_new hN hT (RepL.cons ?_ (RepL.cons rx RepL.nil)) (by show 2 ≤ sizeLine; decide)⟩
    simp [Rep]
theorem zip2_get : ∀ (l m : List Val) (i : Nat), (zip2 l m)[i]? = match l[i]?, m[i]? with | some a, some b => some (.tup [a, b]) | _, _ => none
  | [], m, i => by cases m <;> simp [zip2]
  | a :: r, [], i => by simp [zip2]
  | a :: r, b :: q, 0 => by simp [zip2]
  | a :: r, b :: q, i + 1 => by simp only [zip2, List.getElem?_cons_succ]; exact zip2_get r q i
theorem zip2_len : ∀ (l m : List Val), (zip2 l m).length = min l.length m.length
  | [], m => by cases m <;> simp [zip2]
  | a :: r, [] => by simp [zip2]
  | a :: r, b :: q => by simp [zip2, zip2_len r q]
theorem itOk_zip2 {k1 k2 : Bool} {a b : Addr} {xs ys : List V} {l m : List Val} (h1 : ∀ N' H', Kp N1 H1 N' H' → SqK k1 K H' a xs) (h2 : ∀ N' H', Kp N1 H1 N' H' → SqK k2 K H' b ys) (r1 : RepL K w N1 H1 l xs) (r2 : RepL K w N1 H1 m ys) :
    ItOk K w N1 H1 (ItZ2 k1 k2 K a b) (zip2 l m) := by
  intro i N' H' k hN
  have q1 := h1 N' H' k
  have q2 := h2 N' H' k
  refine ⟨fun e => ⟨xs, ys, q1, q2, by rw [zip2_len] at e; rw [r1.length, r2.length]; exact e.symm⟩, fun v hv => ?_⟩
  rw [zip2_get] at hv
  split at hv
  · rename_i u u2 e1 e2
    cases hv
    obtain ⟨x, hx, rx⟩ := (r1.kp k).get e1
    obtain ⟨y, hy, ry⟩ := (r2.kp k).get e2
    refine ⟨⟨xs, ys, x, y, q1, q2, hx, hy⟩, fun z H'' hz => ?_⟩
    obtain ⟨T, x', y', rfl, hT, rfl, z1, z2⟩ := hz
    have t1 := z1 xs q1
    have t2 := z2 ys q2
    rw [hx] at t1; cases t1
    rw [hy] at t2; cases t2
    exact ⟨upd_keep hT, rep_new hN hT (RepL.cons rx (RepL.cons ry RepL.nil)) (by show 2 ≤ sizeLine; decide)⟩
  · cases hv
theorem itOk_keys {d : Addr} {o : Obj} {ys : List (Key × V)} (h : H1 d = some (.frz o (.dK ys))) (hn : ¬ N1 d) : ItOk K w N1 H1 (Itk d o ys) ((ys.map (·.1)).map keyV) := by
  intro i N' H' k hN
  have e1 := (k.at h hn (fun _ z => nomatch z)).1
  refine ⟨fun e => ⟨e1, by simp at e; omega⟩, fun v hv => ?_⟩
  simp only [List.getElem?_map] at hv
  cases hl : ys[i]? with
  | none => rw [hl] at hv; cases hv
  | some p =>
    rw [hl] at hv
    cases hv
    refine ⟨⟨e1, (List.getElem?_eq_some_iff.mp hl).1⟩, fun x H'' hy => ?_⟩
    obtain ⟨rfl, kk, vv, e2, rfl⟩ := hy
    rw [hl] at e2
    cases e2
    refine ⟨fun _ _ e => e, ?_⟩
    cases kk <;> simp [keyV, kV, Rep]
theorem itemsV_get : ∀ (ys : List (Key × V)) (vs : List Val) (i : Nat), vs.length = ys.length → (itemsV (ys.map (·.1)) vs)[i]? = match ys[i]?, vs[i]? with | some p, some v => some (.tup [keyV p.1, v]) | _, _ => none
  | [], [], i, _ => by simp [itemsV]
  | p :: ys, v :: vs, 0, _ => by simp [itemsV]
  | p :: ys, v :: vs, i + 1, h => by
    simp only [List.map_cons, itemsV, List.getElem?_cons_succ]
    exact itemsV_get ys vs i (by simpa using h)
theorem itemsV_len : ∀ (ys : List (Key × V)) (vs : List Val), vs.length = ys.length → (itemsV (ys.map (·.1)) vs).length = ys.length
  | [], [], _ => rfl
  | p :: ys, v :: vs, h => by simp [itemsV, itemsV_len ys vs (by simpa using h)]
theorem itOk_items {d : Addr} {o : Obj} {ys : List (Key × V)} {vs : List Val} (h : H1 d = some (.frz o (.dK ys))) (hn : ¬ N1 d) (r : RepL K w N1 H1 vs (ys.map (·.2))) : ItOk K w N1 H1 (Iti d o ys) (itemsV (ys.map (·.1)) vs) := by
  intro i N' H' k hN
  have e1 := (k.at h hn (fun _ z => nomatch z)).1
  have hl : vs.length = ys.length := by have := r.length; simpa using this.symm
  refine ⟨fun e => ⟨e1, by rw [itemsV_len ys vs hl] at e; omega⟩, fun v hv => ?_⟩
  rw [itemsV_get ys vs i hl] at hv
  split at hv
  · rename_i p u e2 e3
    cases hv
    obtain ⟨x, hx, rx⟩ := (r.kp k).get e3
    rw [List.getElem?_map, e2] at hx
    cases hx
    refine ⟨⟨e1, (List.getElem?_eq_some_iff.mp e2).1⟩, fun y H'' hy => ?_⟩
    obtain ⟨T, kk, vv, e4, rfl, hT, rfl⟩ := hy
    rw [e2] at e4
    cases e4
    refine ⟨upd_keep hT, rep_new hN hT (RepL.cons ?_ (RepL.cons rx RepL.nil)) (by show 2 ≤ sizeLine; decide)⟩
    cases kk <;> simp [keyV, kV, Rep]
  · cases hv
theorem itOk_str {z : Str} : ItOk K w N1 H1 (Its z) (z.cps.toList.map fun c => .str ⟨#[c]⟩) := by
  intro i N' H' k hN
  refine ⟨fun e => by simp at e; show z.cps.size ≤ i; omega, fun v hv => ?_⟩
  simp only [List.getElem?_map, Array.getElem?_toList] at hv
  cases hl : z.cps[i]? with
  | none => rw [hl] at hv; cases hv
  | some c =>
    rw [hl] at hv
    cases hv
    have hi : i < z.cps.size := by
      rcases Array.getElem?_eq_some_iff.mp hl with ⟨h, _⟩; exact h
    refine ⟨hi, fun x H'' hy => ?_⟩
    obtain ⟨rfl, c', e2, rfl⟩ := hy
    rw [hl] at e2
    cases e2
    exact ⟨fun _ _ e => e, by simp [Rep]⟩
end
/-- what the heap's dicts are -/
theorem pe_hok {X : Cx} {e : Expr} {t : TE} (h : PE X e t) : PE X e (fun σ H Q => t σ H fun x H1 => (∀ d kvs, Rd H1 d (.dK kvs) → kvs.length ≤ sizeLine) → Q x H1) :=
  ⟨fun pins s σ H Q I hq => thn (h.run pins s σ H _ I hq) fun v s1 ⟨x, H1, I1, r1, q⟩ => ⟨x, H1, I1, r1, q fun d kvs hd => (dk_rd I1.hok hd).1⟩⟩
/-- a dict is locked behind an expression -/
def tFz (t : TE) : TE := fun σ H Q => t σ H fun x H1 => ∃ d kvs, x = .ref d ∧ ((H1 d = some (.dK kvs) ∧ ∀ od, Q x (upd H1 d (.frz od (.dK kvs)))) ∨ ∃ o, H1 d = some (.frz o (.dK kvs)) ∧ Q x H1)
theorem pe_freeze {X : Cx} {e : Expr} {t : TE} (h : PE X e t) : PE X e (tFz t) := by
  refine ⟨fun pins s σ H Q I hq => thn (h.run pins s σ H _ I hq) fun v s1 ⟨x, H1, I1, r1, d, kvs, ex, q⟩ => ?_⟩
  rcases q with ⟨hd, q⟩ | ⟨o, hd, q⟩
  · obtain ⟨od, I2⟩ := I1.lock hd trivial
    exact ⟨x, _, I2, r1, q od⟩
  · exact ⟨x, H1, I1, r1, q⟩
section
variable {K : PySem.W.Frag} {w : World} {Mo : AP1} {L : Option Addr} {own own' own1 own2 : Ow} {H H' H1 H2 : Hp} {σ : L2.St} {env env' env1 env2 : Env}
theorem Mid.lock (m : Mid K w Mo L own H σ own1 [] H1 env1) {d : Addr} {ys : List (Key × V)} (hd : H1 d = some (.dK ys)) (hn : ¬ NN Mo own1 d) (od : Obj) :
    Mid K w Mo L own H σ own1 [] (upd H1 d (.frz od (.dK ys))) env1 ∧ Kp (NN Mo own1) H1 (NN Mo own1) (upd H1 d (.frz od (.dK ys))) := by
  have k : Kp (NN Mo own1) H1 (NN Mo own1) (upd H1 d (.frz od (.dK ys))) := fun a o e n => by
    by_cases ha : a = d
    · subst ha
      rw [hd] at e; cases e
      exact ⟨⟨_, upd_same, .inr ⟨ys, od, rfl, rfl⟩⟩, n⟩
    · exact ⟨⟨o, by rw [upd_ne ha]; exact e, .refl⟩, n⟩
  have nd : ∀ a, NN Mo own1 a → a ≠ d := fun a z e => hn (e ▸ z)
  have r0 := m.rs0
  refine ⟨?_, k⟩
  have kk : Keep Mo own1 H1 own1 (upd H1 d (.frz od (.dK ys))) [] := by
    refine ⟨fun u o e n => ?_, fun u o mo e => by rw [upd_ne (nd u (.inl mo))]; exact e, fun u o e => ?_, by simp⟩
    · by_cases ha : u = d
      · subst ha
        rw [hd] at e; cases e
        exact ⟨⟨_, upd_same, .inr ⟨ys, od, rfl, rfl⟩⟩, n⟩
      · exact ⟨⟨o, by rw [upd_ne ha]; exact e, .refl⟩, n⟩
    · by_cases ha : u = d
      · subst ha; exact ⟨_, upd_same⟩
      · exact ⟨o, by rw [upd_ne ha]; exact e⟩
  have m2 : Mid K w Mo L own1 H1 σ own1 [] (upd H1 d (.frz od (.dK ys))) env1 := by
    refine ⟨?_, kk, by simp, fun _ _ e => e⟩
    rw [ad_nil]
    refine ⟨r0.len, r0.inj, r0.nmo, fun a z => ?_, fun i => (r0.slot i).kp k fun a e u q => by rw [upd_ne (nd a (.inr ⟨i, e⟩))]; exact q⟩
    obtain ⟨o, e⟩ := r0.mos a z
    exact ⟨o, by rw [upd_ne (nd a (.inl z))]; exact e⟩
  exact m.two m2
end
section
variable {X : Cx} {cl : Cl} {e tg : Expr} {ie : E}
theorem p_expr (hc : X.calm = true) (he : PE X e (tI X.K X.w cl ie)) : PI X tg e (iI X.K X.w cl ie) := by
  refine ⟨fun pins s σ H R I h => ?_⟩
  obtain ⟨Mo, L, own, env, l, env', rs, e1, q⟩ := h
  obtain ⟨x, e3, e2⟩ := itR_some e1
  obtain ⟨v, f⟩ := x
  cases v with
  | scr l' =>
    simp only [itV, Option.some.injEq] at e2
    subst e2
    refine (pi_list he).run pins s σ H R I ⟨Mo, L, own, env, _, env', rs, e3, fun x H1 p => ?_⟩
    obtain ⟨own1, m, h1⟩ := p.mid
    obtain ⟨a, xs, rfl, ha, z, rl⟩ := h1.scr
    exact ⟨a, rfl, ⟨xs, ha.sq⟩, q _ _ own1 z m (itOk_list (fun N' H' k => (ha.kp k).sq) rl)⟩
  | lst l' =>
    simp only [itV, Option.some.injEq] at e2
    subst e2
    refine (pi_list he).run pins s σ H R I ⟨Mo, L, own, env, _, env', rs, e3, fun x H1 p => ?_⟩
    obtain ⟨own1, m, h1⟩ := p.mid
    obtain ⟨a, xs, rfl, ha, na, z, rl⟩ := h1.lst
    exact ⟨a, rfl, ⟨xs, SqL.of ha⟩, q _ _ own1 z m (itOk_list (fun N' H' k => SqL.of (k.at ha na (fun _ z => nomatch z)).1) rl)⟩
  | tup l' =>
    simp only [itV, Option.some.injEq] at e2
    subst e2
    refine (pi_tup he).run pins s σ H R I ⟨Mo, L, own, env, _, env', rs, e3, fun x H1 p => ?_⟩
    obtain ⟨own1, m, h1⟩ := p.mid
    obtain ⟨a, xs, rfl, ha, z, rl⟩ := h1.tup
    exact ⟨a, rfl, ⟨xs, ha.sq⟩, q _ _ own1 z m (itOk_tup (fun N' H' k => (ha.kp k).sq) rl)⟩
  | dict ks vs =>
    simp only [itV, Option.some.injEq] at e2
    subst e2
    refine (pi_keys (pe_freeze (pe_hok he))).run pins s σ H R I ⟨Mo, L, own, env, _, env', rs, e3, fun x H1 p hz => ?_⟩
    obtain ⟨own1, m, h1⟩ := p.mid
    obtain ⟨a, ys, rfl, ha, na, ey, rl⟩ := h1.dict
    subst ey
    have hl : ((ys.map (·.1)).map keyV).length ≤ sizeLine := by simpa using hz a ys ha
    rcases ha with ha | ⟨o, ha⟩
    · refine ⟨a, ys, rfl, .inl ⟨ha, fun od => ?_⟩⟩
      obtain ⟨m2, k⟩ := m.lock ha na od
      exact ⟨a, od, rfl, .inl ⟨ys, upd_same, q _ _ own1 hl m2 (itOk_keys upd_same na)⟩⟩
    · exact ⟨a, ys, rfl, .inr ⟨o, ha, a, o, rfl, .inl ⟨ys, ha, q _ _ own1 hl m (itOk_keys ha na)⟩⟩⟩
  | str z =>
    simp only [itV] at e2
    split at e2
    · rename_i hz
      cases e2
      refine (pi_str he).run pins s σ H R I ⟨Mo, L, own, env, _, env', rs, e3, fun x H1 p => ?_⟩
      obtain ⟨own1, m, h1⟩ := p.mid
      have e4 := h1.str
      subst e4
      exact ⟨z, rfl, q _ _ own1 (by rw [sizeL]; simpa [okLen] using hz) m itOk_str⟩
    · cases e2
  | none => simp [itV] at e2
  | bool b => simp [itV] at e2
  | int b => simp [itV] at e2
  | set b => simp [itV] at e2
theorem p_items {elts : List Expr} {kk : Nat} {tpos apos cpos : Pos} (he : PE X e (tI X.K X.w cl ie)) (hbase : attributeBase e "items" X.env (eval e X.env) = eval e X.env) (hline : (apos.endLine == cpos.line) = true) :
    PI X (.Tuple elts kk tpos) (.Call (.Attribute e "items" apos) [] [] cpos) (iI X.K X.w cl (.items ie)) := by
  refine ⟨fun pins s σ H R I h => ?_⟩
  obtain ⟨Mo, L, own, env, l, env', rs, e1, q⟩ := h
  obtain ⟨x, e3, e2⟩ := itR_some e1
  simp only [ev] at e3
  split at e3
  · rename_i ks vs f env2 e4
    cases e3
    simp only [itV, Option.some.injEq] at e2
    subst e2
    refine (pi_items (pe_freeze (pe_hok he)) hbase hline).run pins s σ H R I ⟨Mo, L, own, env, _, env', rs, e4, fun x H1 p hz => ?_⟩
    obtain ⟨own1, m, h1⟩ := p.mid
    obtain ⟨a, ys, rfl, ha, na, ey, rl⟩ := h1.dict
    subst ey
    have hle : vs.length = ys.length := by have := rl.length; simpa using this.symm
    have hl : (itemsV (ys.map (·.1)) vs).length ≤ sizeLine := by rw [itemsV_len ys vs hle]; exact hz a ys ha
    rcases ha with ha | ⟨o, ha⟩
    · refine ⟨a, ys, rfl, .inl ⟨ha, fun od => ?_⟩⟩
      obtain ⟨m2, k⟩ := m.lock ha na od
      exact ⟨a, od, ys, rfl, upd_same, q _ _ own1 hl m2 (itOk_items upd_same na (rl.kp k))⟩
    · exact ⟨a, ys, rfl, .inr ⟨o, ha, a, o, ys, rfl, ha, q _ _ own1 hl m (itOk_items ha na rl)⟩⟩
  · cases e3
theorem RepL.len_lim {N : AP1} {H : Hp} {l : List Val} {xs : List V} (r : RepL X.K X.w N H l xs) : xs.length = l.length := r.length
theorem p_enum {a : Expr} {ia : E} {elts : List Expr} {kk : Nat} {tpos p pos : Pos} (hg : Gl X "enumerate") (hm : X.mg "enumerate" = none) (ha : PE X a (tI X.K X.w cl ia)) (hp : ∀ x p, a ≠ .Starred x p) :
    PI X (.Tuple elts kk tpos) (.Call (.Name "enumerate" p) [a] [] pos) (iI X.K X.w cl (.enum ia)) := by
  refine (pi_enum (elts := elts) (kk := kk) (tpos := tpos) hg hm (pa_cons ha pa_nil (starEach_plain hp)) (starEach_plain hp)).weak ?_
  rintro σ H R ⟨Mo, L, own, env, l, env', rs, e1, q⟩
  obtain ⟨x, e3, e2⟩ := itR_some e1
  simp only [ev] at e3
  split at e3
  · rename_i m f env2 e4
    cases e3
    simp only [itV, Option.some.injEq] at e2
    subst e2
    refine ⟨Mo, L, own, env, _, env', rs, e4, fun x1 H1 pp => ?_⟩
    obtain ⟨own1, mm, h1⟩ := pp.mid
    obtain ⟨a, xs, rfl, ha, na, z, rl⟩ := h1.lst
    exact ⟨a, xs, rfl, SqL.of ha, q _ _ own1 (by rw [enumL_len]; exact z) mm (itOk_enum (fun N' H' k => SqL.of (k.at ha na (fun _ z => nomatch z)).1) rl)⟩
  · cases e3
theorem starEach2 {a b : Expr} {env : PySem.Env} (h : ∀ x p, a ≠ .Starred x p) (k : ∀ x p, b ≠ .Starred x p) : starEach [a, b] env = (false, eval a env) :: starEach [b] env ∧ starEach [b] env = [(false, eval b env)] := ⟨starEach_plain h, starEach_plain k⟩
theorem seqOf_K {N : AP1} {H : Hp} {v : Val} {x : V} {l : List Val} (h : seqOf v = some l) (r : Rep X.K X.w N H v x) : ∃ k a xs, x = .ref a ∧ (∀ N' H', Kp N H N' H' → SqK k X.K H' a xs) ∧ l.length ≤ sizeLine ∧ RepL X.K X.w N H l xs := by
  unfold seqOf at h
  split at h
  · cases h
    obtain ⟨a, xs, rfl, ha, na, z, rl⟩ := r.lst
    exact ⟨true, a, xs, rfl, fun N' H' k => SqL.of (k.at ha na (fun _ z => nomatch z)).1, z, rl⟩
  · cases h
    obtain ⟨a, xs, rfl, ha, z, rl⟩ := r.tup
    exact ⟨false, a, xs, rfl, fun N' H' k => (ha.kp k).sq, z, rl⟩
  · cases h
theorem evs2 {i1 i2 : E} {env env' : Env} {l : List Res} (h : evs cl (.cons i1 (.cons i2 .nil)) env = some (l, env')) : ∃ x y, l = [x, y] := by
  simp only [evs] at h
  split at h
  · split at h
    · rename_i l2 env2 h2
      cases h
      split at h2
      · cases h2; exact ⟨_, _, rfl⟩
      · cases h2
    · cases h
  · cases h
theorem p_zip2 {a b : Expr} {i1 i2 : E} {elts : List Expr} {kk : Nat} {tpos p pos : Pos} (hg : Gl X "zip") (hm : X.mg "zip" = none) (ha : PA X [a, b] (tIs X.K X.w cl (.cons i1 (.cons i2 .nil)))) (h1 : ∀ x p, a ≠ .Starred x p) (h2 : ∀ x p, b ≠ .Starred x p) :
    PI X (.Tuple elts kk tpos) (.Call (.Name "zip" p) [a, b] [] pos) (iI X.K X.w cl (.zip (.cons i1 (.cons i2 .nil)))) := by
  obtain ⟨s1, s2⟩ := starEach2 (env := X.env) h1 h2
  refine (pi_Z2 (elts := elts) (kk := kk) (tpos := tpos) hg hm ha s1 (by rw [s2]; rfl)).weak ?_
  rintro σ H R ⟨Mo, L, own, env, l, env', rs, e1, q⟩
  obtain ⟨x, e3, e2⟩ := itR_some e1
  simp only [ev] at e3
  split at e3
  · rename_i y env2 e4
    split at e3
    · rename_i m em
      cases e3
      simp only [itV, Option.some.injEq] at e2
      subst e2
      refine ⟨Mo, L, own, env, y, env', rs, e4, fun xs H1 pp => ?_⟩
      obtain ⟨own1, mm, h1⟩ := pp.mid
      obtain ⟨u1, u2, rfl⟩ := evs2 e4
      have em : zipV [u1.1, u2.1] = some m := em
      simp only [zipV] at em
      split at em
      · rename_i l1 l2 f1 f2
        cases em
        obtain ⟨x1, x2, rfl, r1, r2⟩ := h1.two
        obtain ⟨k1, a1, ys1, rfl, q1, z1, rl1⟩ := seqOf_K f1 r1
        obtain ⟨k2, a2, ys2, rfl, q2, z2, rl2⟩ := seqOf_K f2 r2
        exact ⟨k1, k2, a1, a2, ys1, ys2, rfl, q1 _ _ .refl, q2 _ _ .refl, q _ _ own1 (by rw [zip2_len]; omega) mm (itOk_zip2 q1 q2 rl1 rl2)⟩
      · cases em
    · cases e3
  · cases e3
theorem evs1 {i1 : E} {env env' : Env} {l : List Res} (h : evs cl (.cons i1 .nil) env = some (l, env')) : ∃ x, l = [x] := by
  simp only [evs] at h
  split at h
  · cases h; exact ⟨_, rfl⟩
  · cases h
theorem evs3 {i1 i2 i3 : E} {env env' : Env} {l : List Res} (h : evs cl (.cons i1 (.cons i2 (.cons i3 .nil))) env = some (l, env')) : ∃ x y z, l = [x, y, z] := by
  simp only [evs] at h
  split at h
  · split at h
    · rename_i l2 env2 h2
      cases h
      split at h2
      · split at h2
        · rename_i l3 env3 h3
          cases h2
          split at h3
          · cases h3; exact ⟨_, _, _, rfl⟩
          · cases h3
        · cases h2
      · cases h2
    · cases h
  · cases h
theorem ok62_ok {i : Int} (h : ok62 i = true) : -(2 ^ 62) ≤ i ∧ i < 2 ^ 62 := by
  unfold ok62 at h
  simp only [Bool.and_eq_true, decide_eq_true_eq] at h
  have h3 : (2 : Int) ^ 62 = 4611686018427387904 := by decide
  rw [h3]; omega
theorem okLen_ok {n : Nat} (h : okLen n = true) : n ≤ sizeLine := by rw [sizeL]; simpa [okLen] using h
theorem range1_inv {v : Val} {m : List Val} (h : rangeV [v] = some m) : ∃ j, v = .int j ∧ (ok62 j && okLen j.toNat) = true ∧ m = rangeL 0 j.toNat 0 1 := by
  cases v with
  | int j =>
    simp only [rangeV] at h
    split at h
    · rename_i hk; cases h; exact ⟨_, rfl, hk, rfl⟩
    · cases h
  | _ => simp [rangeV] at h
theorem range2_inv {v u : Val} {m : List Val} (h : rangeV [v, u] = some m) : ∃ i j, v = .int i ∧ u = .int j ∧ (ok62 i && ok62 j && okLen (j - i).toNat) = true ∧ m = rangeL 0 (j - i).toNat i 1 := by
  cases v with
  | int i =>
    cases u with
    | int j =>
      simp only [rangeV] at h
      split at h
      · rename_i hk; cases h; exact ⟨_, _, rfl, rfl, hk, rfl⟩
      · cases h
    | _ => simp [rangeV] at h
  | _ => simp [rangeV] at h
theorem range3_inv {v u t : Val} {m : List Val} (h : rangeV [v, u, t] = some m) : ∃ i j c, v = .int i ∧ u = .int j ∧ t = .int c ∧ (ok62 i && ok62 j && okLen (j - i).toNat && decide (0 < c) && decide (c < 1073741824)) = true ∧ m = rangeL 0 (if i < j then (j - i - 1) / c + 1 else 0).toNat i c := by
  cases v with
  | int i =>
    cases u with
    | int j =>
      cases t with
      | int c =>
        simp only [rangeV] at h
        split at h
        · rename_i hk; cases h; exact ⟨_, _, _, rfl, rfl, rfl, hk, rfl⟩
        · cases h
      | _ => simp [rangeV] at h
    | _ => simp [rangeV] at h
  | _ => simp [rangeV] at h
theorem p_range1 {a : Expr} {i1 : E} {p pos : Pos} (hg : Gl X "range") (hm : X.mg "range" = none) (ha : PA X [a] (tIs X.K X.w cl (.cons i1 .nil))) (h1 : ∀ x p, a ≠ .Starred x p) :
    PI X tg (.Call (.Name "range" p) [a] [] pos) (iI X.K X.w cl (.range (.cons i1 .nil))) := by
  refine (pi_range1 (tg := tg) hg hm ha (starEach_plain h1)).weak ?_
  rintro σ H R ⟨Mo, L, own, env, l, env', rs, e1, q⟩
  obtain ⟨x, e3, e2⟩ := itR_some e1
  simp only [ev] at e3
  split at e3
  · rename_i y env2 e4
    split at e3
    · rename_i m em
      cases e3
      simp only [itV, Option.some.injEq] at e2
      subst e2
      refine ⟨Mo, L, own, env, y, env', rs, e4, fun xs H1 pp => ?_⟩
      obtain ⟨own1, mm, h1⟩ := pp.mid
      obtain ⟨u1, rfl⟩ := evs1 e4
      have em : rangeV [u1.1] = some m := em
      obtain ⟨x1, rfl, r1⟩ := h1.one
      obtain ⟨j, hj, hk, rfl⟩ := range1_inv em
      have r1 : Rep X.K X.w (NN Mo own1) H1 (.int j) x1 := hj ▸ r1
      simp only [Bool.and_eq_true] at hk
      have := r1.int; subst this
      obtain ⟨b1, b2⟩ := ok62_ok hk.1
      exact ⟨_, rfl, b1, b2, q _ _ own1 (by rw [rangeL_len]; exact okLen_ok hk.2) mm itOk_range1⟩
    · cases e3
  · cases e3
theorem p_range2 {a b : Expr} {i1 i2 : E} {p pos : Pos} (hg : Gl X "range") (hm : X.mg "range" = none) (ha : PA X [a, b] (tIs X.K X.w cl (.cons i1 (.cons i2 .nil)))) (h1 : ∀ x p, a ≠ .Starred x p) (h2 : ∀ x p, b ≠ .Starred x p) :
    PI X tg (.Call (.Name "range" p) [a, b] [] pos) (iI X.K X.w cl (.range (.cons i1 (.cons i2 .nil)))) := by
  obtain ⟨s1, s2⟩ := starEach2 (env := X.env) h1 h2
  refine (pi_range2 (tg := tg) hg hm ha (by rw [s1, s2]) s2).weak ?_
  rintro σ H R ⟨Mo, L, own, env, l, env', rs, e1, q⟩
  obtain ⟨x, e3, e2⟩ := itR_some e1
  simp only [ev] at e3
  split at e3
  · rename_i y env2 e4
    split at e3
    · rename_i m em
      cases e3
      simp only [itV, Option.some.injEq] at e2
      subst e2
      refine ⟨Mo, L, own, env, y, env', rs, e4, fun xs H1 pp => ?_⟩
      obtain ⟨own1, mm, h1⟩ := pp.mid
      obtain ⟨u1, u2, rfl⟩ := evs2 e4
      have em : rangeV [u1.1, u2.1] = some m := em
      obtain ⟨x1, x2, rfl, r1, r2⟩ := h1.two
      obtain ⟨i, j, hi, hj, hk, rfl⟩ := range2_inv em
      have r1 : Rep X.K X.w (NN Mo own1) H1 (.int i) x1 := hi ▸ r1
      have r2 : Rep X.K X.w (NN Mo own1) H1 (.int j) x2 := hj ▸ r2
      simp only [Bool.and_eq_true] at hk
      have := r1.int; subst this
      have := r2.int; subst this
      obtain ⟨b1, b2⟩ := ok62_ok hk.1.1
      obtain ⟨b3, b4⟩ := ok62_ok hk.1.2
      exact ⟨_, _, rfl, ⟨b1, b2, b3, b4⟩, q _ _ own1 (by rw [rangeL_len]; exact okLen_ok hk.2) mm itOk_range1⟩
    · cases e3
  · cases e3
theorem rgC_pos {i j c : Int} (h1 : -(2 ^ 62) ≤ i) (h2 : i < 2 ^ 62) (h3 : -(2 ^ 62) ≤ j) (h4 : j < 2 ^ 62) (hc : 0 < c) (hc2 : c < 1073741824) : RgC i j c (if i < j then (j - i - 1) / c + 1 else 0).toNat := by
  have hd : i < j → 0 ≤ (j - i - 1) / c := fun h => Int.ediv_nonneg (by omega) (by omega)
  have hle : i < j → (j - i - 1) / c ≤ j - i - 1 := fun h => Int.ediv_le_self _ (by omega)
  have hs : Builtin.Range.rangeSize i j c = (((if i < j then (j - i - 1) / c + 1 else 0).toNat : Nat) : Int) := by
    unfold Builtin.Range.rangeSize
    rw [if_pos hc]
    split
    · rename_i h
      have := hd h
      omega
    · rfl
  refine ⟨by omega, by omega, ?_, hs⟩
  unfold Builtin.Range.small
  rw [hs]
  have hp : (2 : Int) ^ 62 = 4611686018427387904 := by decide
  have hq : (2 : Int) ^ 63 = 9223372036854775808 := by decide
  rw [hp] at h1 h2 h3 h4
  simp only [Builtin.Range.rangeFitsLong, Bool.and_eq_true, Bool.or_eq_true, decide_eq_true_eq, beq_iff_eq, hq, show (c > 0) = True from by simp [hc], if_true]
  have hz : (0 : Int) ≤ (if i < j then (j - i - 1) / c + 1 else 0) := by
    split
    · rename_i h; have := hd h; omega
    · omega
  have hz2 : (if i < j then (j - i - 1) / c + 1 else 0) ≤ 9223372036854775807 := by
    split
    · rename_i h; have := hle h; omega
    · omega
  generalize (if i < j then (j - i - 1) / c + 1 else 0) = z at hz hz2 ⊢
  omega
theorem p_range3 {a b d : Expr} {i1 i2 i3 : E} {p pos : Pos} (hg : Gl X "range") (hm : X.mg "range" = none) (ha : PA X [a, b, d] (tIs X.K X.w cl (.cons i1 (.cons i2 (.cons i3 .nil))))) (h1 : ∀ x p, a ≠ .Starred x p) (h2 : ∀ x p, b ≠ .Starred x p) (h3 : ∀ x p, d ≠ .Starred x p) :
    PI X tg (.Call (.Name "range" p) [a, b, d] [] pos) (iI X.K X.w cl (.range (.cons i1 (.cons i2 (.cons i3 .nil))))) := by
  have s3 : starEach [d] X.env = [(false, eval d X.env)] := starEach_plain h3
  have s2 : starEach [b, d] X.env = (false, eval b X.env) :: starEach [d] X.env := starEach_plain h2
  refine (pi_range3 (tg := tg) hg hm ha (starEach_plain h1) (by rw [s2, s3]; rfl)).weak ?_
  rintro σ H R ⟨Mo, L, own, env, l, env', rs, e1, q⟩
  obtain ⟨x, e3, e2⟩ := itR_some e1
  simp only [ev] at e3
  split at e3
  · rename_i y env2 e4
    split at e3
    · rename_i m em
      cases e3
      simp only [itV, Option.some.injEq] at e2
      subst e2
      refine ⟨Mo, L, own, env, y, env', rs, e4, fun xs H1 pp => ?_⟩
      obtain ⟨own1, mm, h1⟩ := pp.mid
      obtain ⟨u1, u2, u3, rfl⟩ := evs3 e4
      have em : rangeV [u1.1, u2.1, u3.1] = some m := em
      obtain ⟨x1, x2, x3, rfl, r1, r2, r3⟩ := h1.three
      obtain ⟨i, j, c, hi, hj, hc, hk, rfl⟩ := range3_inv em
      have r1 : Rep X.K X.w (NN Mo own1) H1 (.int i) x1 := hi ▸ r1
      have r2 : Rep X.K X.w (NN Mo own1) H1 (.int j) x2 := hj ▸ r2
      have r3 : Rep X.K X.w (NN Mo own1) H1 (.int c) x3 := hc ▸ r3
      simp only [Bool.and_eq_true, decide_eq_true_eq] at hk
      have := r1.int; subst this
      have := r2.int; subst this
      have := r3.int; subst this
      obtain ⟨b1, b2⟩ := ok62_ok hk.1.1.1.1
      obtain ⟨b3, b4⟩ := ok62_ok hk.1.1.1.2
      refine ⟨_, _, _, _, rfl, rgC_pos b1 b2 b3 b4 hk.1.2 hk.2, q _ _ own1 ?_ mm itOk_range⟩
      rw [rangeL_len]
      have hl := okLen_ok hk.1.1.2
      split
      · rename_i h
        have : (j - i - 1) / c ≤ j - i - 1 := Int.ediv_le_self _ (by omega)
        omega
      · simp
    · cases e3
  · cases e3
end
end Q

end
section
set_option Elab.async false
set_option linter.all false
set_option maxRecDepth 100000
set_option maxHeartbeats 3200000
/-! Q: set(..) of a list, whatever the loop over its items does. -/
namespace QH
open PySem PySem.Spec PyProof.Rows L2
abbrev setOb (w : World) : Obj := { cls := .type "set", dict := none, data := .set #[] 0 (.fresh 0 0 (!w.params.followText "set-order")) }
abbrev itOb (l : Addr) : Obj := { cls := .type "list_iterator", data := .fields #[.ref l, .int 0 0] }
section
variable {P : Program} {w : World} {A : Around} {E : Value → Shared → Prop} {s : Shared}
/-- what the loop leaves: Fin by the state behind it -/
theorem call_set_loop {l : Addr} {items : Array Value} {Q : Value → Shared → Prop} (hl : s.heap.IsList l items) {Fin : Shared → Prop}
    (loop : ∀ (B : Around) (R : Result → Shared → Prop), B.handled = A.handled → (∀ s', Fin s' → R (.ok (.ret .none)) s') →
      codeAny (model P w) B (.builtin "set.update.loop" ⟨[.ref s.heap.objs.size, .ref (s.heap.push (setOb w)).objs.size], []⟩) R { s with heap := (s.heap.push (setOb w)).push (itOb l) })
    (h : ∀ s', Fin s' → Q (.ref s.heap.objs.size) s') : wpAny (model P w) A (call (.type "set") [.ref l]) Q E s := by
  obtain ⟨c, tl, hmro⟩ := F.called_set.mro
  have hmade := F.called_set.made
  have hsub := F.called_set.sub
  refine wpAny_call (codeAny_of_tree ?_)
  show wpAny _ _ (callAny (.type "set") _) _ _ _
  refine wpAny_pure ⟨Code.quiet_builtin _ (by decide +kernel), codeAny_builtin F.entry_type_call ?_⟩
  rw [Around.under_plain (weight_type_call_type "set" [.ref l] []) rfl]
  have h1 := F.called_set.notType
  have h2 := F.called_set.canCreate
  have hct := F.typeCall_set_1 (.ref l)
  repeat (any_goals (first | assumption | wp_step))
  refine codeAny_mono (code_set_led1 (.ref l) (E := E) (Q₁ := fun obj s₁ => obj = .ref s.heap.objs.size ∧ s₁ = { s with heap := s.heap.push (setOb w) }) ⟨rfl, rfl⟩) fun r s₁ hr => ?_
  cases r with
  | error e => exact hr
  | ok fl =>
    cases fl with
    | ret obj =>
      obtain ⟨rfl, rfl⟩ := hr
      have hS : (s.heap.push (setOb w)).get? s.heap.objs.size = some (setOb w) := Heap.get?_push_size _ rfl
      have hT : Shared.TypeIs { s with heap := s.heap.push (setOb w) } (.ref s.heap.objs.size) "set" := ⟨_, hS, rfl⟩
      have hli := F.called_set.init.lookup
      have hbi := F.called_set.init.bind (.ref s.heap.objs.size)
      repeat (any_goals (first | assumption | wp_step))
      refine codeAny_mono (codeAny_call_builtin (R := wants (fun r s₂ => r = .none ∧ Fin s₂) E) F.called_set.init.plain F.entry_set_init (check_set_init_1 hT ?_)) fun r₂ s₂ hr₂ => ?_
      · obtain ⟨ol, hol, hcl, nl, hdl⟩ := hl
        obtain ⟨ocls, odict, odata, oslots⟩ := ol
        simp only at hcl hdl
        subst hcl; subst hdl
        have hol' : (s.heap.push (setOb w)).get? l = some { cls := .type "list", dict := odict, data := .seq items nl, slots := oslots } := Heap.get?_push_of_some _ hol
        have hsls := F.sub_list_set
        have hslf := F.sub_list_frozenset
        have hne : (Value.type "list" == Value.type "dict") = false := by decide
        have hl1 : (s.heap.push (setOb w)).IsList l items := ⟨_, hol', rfl, nl, rfl⟩
        unfold Builtin.«set.__init__» noKeywords Builtin.Frozenset.updateFrom
        generalize hPI : pyIter = PI
        wp_walk
        subst hPI
        refine wpAny_pyIter_list hl1 ?_
        refine wpAny_bind (wpAny_runValue ?_)
        refine loop _ _ (by simp) fun s' hf => ?_
        show wpAny _ _ _ _ _ _
        refine wpAny_pure ?_
        show wpAny _ _ (ret Value.none) _ _ _
        exact wpAny_pure ⟨rfl, hf⟩
      · cases r₂ with
        | error e => exact hr₂
        | ok fl₂ =>
          cases fl₂ with
          | ret r =>
            obtain ⟨rfl, hf⟩ := hr₂
            repeat (any_goals (first | assumption | wp_step))
            exact h _ hf
          | _ => exact hr₂.elim
    | _ => exact hr.elim
theorem set_listR {l : Addr} {items : Array Value} (ns : List Int) {Q : Value → Shared → Prop} (hh : A.handled = none) (hl : s.heap.IsList l items) (hit : IntsAre items.toList ns) (hb : ns.length + 1 < scanBound)
    (h : ∀ (h' : Heap) (tk c : Nat), SetR w h' s.heap.objs.size (fun j => decide (j ∈ ns)) c → c ≤ ns.length → (∀ b o, s.heap.get? b = some o → h'.get? b = some o) → Q (.ref s.heap.objs.size) { s with heap := h', toks := tk }) :
    wpAny (model P w) A (call (.type "set") [.ref l]) Q E s := by
  have hisz : items.size = ns.length := by
    have q := IntsAre.length hit
    rw [Array.length_toList] at q
    exact q
  refine call_set_loop hl (Fin := fun s' => ∃ h' tk c, s' = { s with heap := h', toks := tk } ∧ SetR w h' s.heap.objs.size (fun j => decide (j ∈ ns)) c ∧ c ≤ ns.length ∧ ∀ b o, s.heap.get? b = some o → h'.get? b = some o) (fun B R hB hR => ?_) fun s' ⟨h', tk, c, e, h1, h2, h3⟩ => by subst e; exact h h' tk c h1 h2 h3
  have hlS : l < s.heap.objs.size := by obtain ⟨_, e, _⟩ := hl; exact Heap.lt_size e
  have sz : (s.heap.push (setOb w)).objs.size = s.heap.objs.size + 1 := Heap.size_push ..
  have hneI : l ≠ (s.heap.push (setOb w)).objs.size := by rw [sz]; exact Nat.ne_of_lt (Nat.lt_succ_of_lt hlS)
  have hSf : s.heap.objs.size ∉ [(s.heap.push (setOb w)).objs.size, l] := by
    rw [sz]; simp only [List.mem_cons, List.not_mem_nil, or_false, not_or]
    exact ⟨Nat.ne_of_lt (Nat.lt_succ_self _), Nat.ne_of_gt hlS⟩
  have hval : ∀ (i : Nat) (v : Value), items[i]? = some v → ∃ k t, ns[i]? = some k ∧ v = .int k t := fun i v hv => by
    have hi : i < ns.length := by rw [← hisz]; exact (Array.getElem?_eq_some_iff.mp hv).1
    obtain ⟨t, e⟩ := PyProof.Rows.IntsAre.int_at hit i v (by rw [Array.getElem?_toList]; exact hv)
    refine ⟨ns[i], t, List.getElem?_eq_getElem hi, ?_⟩
    rw [e, List.getD_eq_getElem?_getD, List.getElem?_eq_getElem hi] <;> rfl
  have hl1 : (s.heap.push (setOb w)).IsList l items := hl.push _
  have hB1 : B.in1.handled = none := by simp [hB, hh]
  refine set_update_ints ((Walks.list (A := B.in1) hB1 _ l hneI items).toS) s.heap.objs.size hSf ns hisz hb hval (items.size - 0) 0 _ (by omega) (Nat.zero_le _) ⟨⟨_, Heap.get?_push_size _ rfl, rfl, rfl⟩, hl1.push _⟩ ?_ fun s' c' hm hc' hS' => ?_
  · exact ⟨0, Nat.le_refl 0, setR_new_at (Heap.get?_push_of_some _ (Heap.get?_push_size _ rfl))⟩
  · refine hR s' ?_
    obtain ⟨h', g2, d', tk', os'⟩ := s'
    have eg : g2 = s.gens := hm.gens
    have ed : d' = s.drawn := hm.drawn
    have eo : os' = s.os := hm.os
    subst eg; subst ed; subst eo
    rw [hisz] at hc'
    refine ⟨h', tk', c', rfl, hS', hc', fun b o e => ?_⟩
    have hb0 : b < s.heap.objs.size := Heap.lt_size e
    exact hm.heap b o (by
      simp only [List.mem_cons, List.not_mem_nil, or_false, not_or]
      exact ⟨Nat.ne_of_lt hb0, by rw [sz]; exact Nat.ne_of_lt (Nat.lt_succ_of_lt hb0)⟩) (Heap.get?_push_of_some _ (Heap.get?_push_of_some _ e))
open PpSet in
theorem setB_count {h : Heap} {a : Addr} {S : Bool → Bool} {n : Nat} (R : SetB w h a S n) : n = (if S true = true then 1 else 0) + (if S false = true then 1 else 0) := by
  obtain ⟨o, es, ep, t, ho, hex, hd, g, nd, hm, hb, hf, hn, hr, hl⟩ := R
  have e : n = (es.toList.map keyB).length := by rw [List.length_map, Array.length_toList, hn]
  rw [e]
  have key : ∀ l : List Bool, l.Nodup → l.length = (if true ∈ l then 1 else 0) + (if false ∈ l then 1 else 0) := by
    intro l hl
    match l, hl with
    | [], _ => rfl
    | [b], _ => cases b <;> rfl
    | [b, c], h => cases b <;> cases c <;> first | rfl | simp at h
    | b :: c :: d :: r, h => cases b <;> cases c <;> cases d <;> simp at h
  rw [key _ nd]
  have e1 : (S true = true) = (true ∈ es.toList.map keyB) := propext (hm true)
  have e2 : (S false = true) = (false ∈ es.toList.map keyB) := propext (hm false)
  simp only [e1, e2]
open PpSet in
theorem set_update_bools {I : Addr} {fp wr : List Addr} {G : Array GenState → Array GenState → Prop} {n : Nat} {Pv : Nat → Value → Prop} {St : Nat → Shared → Prop} {R : Result → Shared → Prop}
    (W : WalksS P w A.in1 I fp wr G n Pv St) (S : Addr) (hSf : S ∉ fp) (ns : List Bool) (hn : n = ns.length) (hval : ∀ i v, Pv i v → ∃ k, ns[i]? = some k ∧ v = .bool k) :
    ∀ (k i : Nat) (s : Shared), n - i = k → i ≤ n → St i s → (∃ c, SetB w s.heap S (fun j => decide (j ∈ ns.take i)) c) →
      (∀ s' c, Moved (S :: wr) G s s' → SetB w s'.heap S (fun j => decide (j ∈ ns)) c → R (.ok (.ret .none)) s') →
      codeAny (model P w) A (.builtin "set.update.loop" ⟨[.ref S, .ref I], []⟩) R s := by
  have hSw : S ∉ wr := fun h => hSf (W.sub _ h)
  have hsub : ∀ b ∈ wr, b ∈ S :: wr := fun b hb => List.mem_cons_of_mem _ hb
  intro k
  induction k with
  | zero =>
    intro i s hk' hi hst ⟨c, hS⟩ hR
    have hin : i = n := by omega
    subst hin
    refine codeAny_builtin F.entry_set_update_loop ?_
    rw [Around.under_plainId F.plain_set_update_loop _]
    show wpAny _ A.in1 (pyNext (.ref I) >>= _) _ _ s
    refine wpAny_bind (W.done s _ _ hst fun s' hm => ?_)
    show wpAny _ A.in1 (ret Value.none) _ _ s'
    have e : ns.take i = ns := List.take_of_length_le (by omega)
    rw [e] at hS
    exact wpAny_pure (hR s' c (hm.mono hsub) (hS.at fun o e => hm.heap S o hSw e))
  | succ k ih =>
    intro i s hk' hi hst ⟨c, hS⟩ hR
    have hlt : i < n := by omega
    refine codeAny_builtin F.entry_set_update_loop ?_
    rw [Around.under_plainId F.plain_set_update_loop _]
    show wpAny _ A.in1 (pyNext (.ref I) >>= _) _ _ s
    refine wpAny_bind (W.item i s _ _ hlt hst fun v s' hP hst' hm => ?_)
    obtain ⟨z, hz, rfl⟩ := hval i v hP
    have hS' : SetB w s'.heap S (fun j => decide (j ∈ ns.take i)) c := hS.at fun o e => hm.heap S o hSw e
    have hc2 : c ≤ 2 := by
      have := setB_count hS'
      split at this <;> split at this <;> omega
    show wpAny _ A.in1 (holding [Value.bool z] (setAdd S (.bool z)) >>= _) _ _ s'
    refine wpAny_bind (wpAny_holding ?_)
    unfold setAdd
    refine wpAny_holding ?_
    refine wpAny_bind ((boolK P w).pyHash (k := z) (boolK_is _ _ _) ?_)
    refine setB_add_hashed (s := { s' with toks := s'.toks + 1 }) hS' (by unfold scanBound; omega) fun h' hsb hS2 => ?_
    have hS3 : SetB w h' S (fun j => decide (j ∈ ns.take (i + 1))) (if decide (z ∈ ns.take i) = true then c else c + 1) := hS2.congr fun j => by
      rw [List.take_add_one, hz]
      simp [List.mem_append]
    refine wpAny_pure ⟨plainId_quiet F.plain_set_update_loop _, ih (i + 1) _ (by omega) hlt (W.frame _ s' _ _ hst' (Nat.le_succ _) fun b hb o e => ?_) ⟨_, hS3⟩ fun s'' c2 hm'' hS'' => ?_⟩
    · rw [hsb.2 b (fun h : b = S => hSf (by rw [← h]; exact hb))]; exact e
    · refine hR s'' c2 (Moved.trans W.gtrans ((hm.mono hsub).then_heap (Nat.le_succ _) fun b o hb e => ?_) hm'') hS''
      rw [hsb.2 b (fun h : b = S => hb (by rw [h]; exact List.mem_cons_self))]; exact e
open PpSet in
theorem set_listB {l : Addr} {items : Array Value} (ns : List Bool) {Q : Value → Shared → Prop} (hh : A.handled = none) (hl : s.heap.IsList l items) (hsz : items.size = ns.length) (hval : ∀ (i : Nat) (v : Value), items[i]? = some v → ∃ k, ns[i]? = some k ∧ v = .bool k)
    (h : ∀ (h' : Heap) (tk c : Nat), SetB w h' s.heap.objs.size (fun j => decide (j ∈ ns)) c → (∀ b o, s.heap.get? b = some o → h'.get? b = some o) → Q (.ref s.heap.objs.size) { s with heap := h', toks := tk }) :
    wpAny (model P w) A (call (.type "set") [.ref l]) Q E s := by
  refine call_set_loop hl (Fin := fun s' => ∃ h' tk c, s' = { s with heap := h', toks := tk } ∧ SetB w h' s.heap.objs.size (fun j => decide (j ∈ ns)) c ∧ ∀ b o, s.heap.get? b = some o → h'.get? b = some o) (fun B R hB hR => ?_) fun s' ⟨h', tk, c, e, h1, h3⟩ => by subst e; exact h h' tk c h1 h3
  have hlS : l < s.heap.objs.size := by obtain ⟨_, e, _⟩ := hl; exact Heap.lt_size e
  have sz : (s.heap.push (setOb w)).objs.size = s.heap.objs.size + 1 := Heap.size_push ..
  have hneI : l ≠ (s.heap.push (setOb w)).objs.size := by rw [sz]; exact Nat.ne_of_lt (Nat.lt_succ_of_lt hlS)
  have hSf : s.heap.objs.size ∉ [(s.heap.push (setOb w)).objs.size, l] := by
    rw [sz]; simp only [List.mem_cons, List.not_mem_nil, or_false, not_or]
    exact ⟨Nat.ne_of_lt (Nat.lt_succ_self _), Nat.ne_of_gt hlS⟩
  have hl1 : (s.heap.push (setOb w)).IsList l items := hl.push _
  have hB1 : B.in1.handled = none := by simp [hB, hh]
  refine set_update_bools ((Walks.list (A := B.in1) hB1 _ l hneI items).toS) s.heap.objs.size hSf ns hsz hval (items.size - 0) 0 _ (by omega) (Nat.zero_le _) ⟨⟨_, Heap.get?_push_size _ rfl, rfl, rfl⟩, hl1.push _⟩ ?_ fun s' c' hm hS' => ?_
  · exact ⟨0, ((setB_fresh w).at fun o e => Heap.get?_push_of_some _ e).congr fun j => by simp⟩
  · refine hR s' ?_
    obtain ⟨h', g2, d', tk', os'⟩ := s'
    have eg : g2 = s.gens := hm.gens
    have ed : d' = s.drawn := hm.drawn
    have eo : os' = s.os := hm.os
    subst eg; subst ed; subst eo
    refine ⟨h', tk', c', rfl, hS', fun b o e => ?_⟩
    have hb0 : b < s.heap.objs.size := Heap.lt_size e
    exact hm.heap b o (by
      simp only [List.mem_cons, List.not_mem_nil, or_false, not_or]
      exact ⟨Nat.ne_of_lt hb0, by rw [sz]; exact Nat.ne_of_lt (Nat.lt_succ_of_lt hb0)⟩) (Heap.get?_push_of_some _ (Heap.get?_push_of_some _ e))
end
end QH

end
section
set_option Elab.async false
set_option linter.all false
set_option maxRecDepth 100000
/-! Q: built-in calls as expressions. -/
namespace Q
open PySem PySem.Spec PyProof.Rows L2
/-! ### plain facts -/
theorem foldMax_spec : ∀ (l : List Int) (x : Int), (l.foldl (fun a b => if a < b then b else a) x ∈ x :: l) ∧ ∀ y ∈ x :: l, y ≤ l.foldl (fun a b => if a < b then b else a) x
  | [], x => by simp
  | z :: l, x => by
    obtain ⟨h1, h2⟩ := foldMax_spec l (if x < z then z else x)
    simp only [List.foldl_cons]
    constructor
    · rcases List.mem_cons.mp h1 with e | e
      · rw [e]; split <;> simp
      · simp [e]
    · intro y hy
      have h3 : (if x < z then z else x) ≤ _ := h2 _ (List.mem_cons_self ..)
      simp only [List.mem_cons] at hy
      rcases hy with rfl | rfl | hy
      · generalize List.foldl _ _ l = t at h3 ⊢; split at h3 <;> omega
      · generalize List.foldl _ _ l = t at h3 ⊢; split at h3 <;> omega
      · exact h2 y (List.mem_cons_of_mem _ hy)
theorem foldMin_spec : ∀ (l : List Int) (x : Int), (l.foldl (fun a b => if b < a then b else a) x ∈ x :: l) ∧ ∀ y ∈ x :: l, l.foldl (fun a b => if b < a then b else a) x ≤ y
  | [], x => by simp
  | z :: l, x => by
    obtain ⟨h1, h2⟩ := foldMin_spec l (if z < x then z else x)
    simp only [List.foldl_cons]
    constructor
    · rcases List.mem_cons.mp h1 with e | e
      · rw [e]; split <;> simp
      · simp [e]
    · intro y hy
      have h3 := h2 _ (List.mem_cons_self ..)
      simp only [List.mem_cons] at hy
      rcases hy with rfl | rfl | hy
      · generalize List.foldl _ _ l = t at h3 ⊢; split at h3 <;> omega
      · generalize List.foldl _ _ l = t at h3 ⊢; split at h3 <;> omega
      · exact h2 y (List.mem_cons_of_mem _ hy)
theorem maxL_eq {l : List Int} {k m : Int} (h : maxL l = some k) (h1 : m ∈ l) (h2 : ∀ y, y ∈ l → y ≤ m) : m = k := by
  cases l with
  | nil => simp at h1
  | cons x r =>
    simp only [maxL, Option.some.injEq] at h
    obtain ⟨a, b⟩ := foldMax_spec r x
    rw [h] at a b
    have := b m h1
    have := h2 k a
    omega
theorem minL_eq {l : List Int} {k m : Int} (h : minL l = some k) (h1 : m ∈ l) (h2 : ∀ y, y ∈ l → m ≤ y) : m = k := by
  cases l with
  | nil => simp at h1
  | cons x r =>
    simp only [minL, Option.some.injEq] at h
    obtain ⟨a, b⟩ := foldMin_spec r x
    rw [h] at a b
    have := b m h1
    have := h2 k a
    omega
theorem maxL_pos {l : List Int} {k : Int} (h : maxL l = some k) : 0 < l.length := by cases l <;> simp [maxL] at h ⊢
theorem minL_pos {l : List Int} {k : Int} (h : minL l = some k) : 0 < l.length := by cases l <;> simp [minL] at h ⊢
theorem ins_perm (x : Int) : ∀ l : List Int, (ins x l).Perm (x :: l)
  | [] => .refl _
  | y :: r => by
    unfold ins
    split
    · exact .refl _
    · exact ((ins_perm x r).cons y).trans (.swap x y r)
theorem isort_perm : ∀ l : List Int, (isort l).Perm l
  | [] => .refl _
  | x :: r => (ins_perm x (isort r)).trans ((isort_perm r).cons x)
theorem ins_sorted (x : Int) : ∀ {l : List Int}, l.Pairwise (· ≤ ·) → (ins x l).Pairwise (· ≤ ·)
  | [], _ => by simp [ins]
  | y :: r, h => by
    unfold ins
    rw [List.pairwise_cons] at h
    split
    · rename_i hx
      rw [List.pairwise_cons, List.pairwise_cons]
      refine ⟨fun a ha => ?_, h.1, h.2⟩
      rcases List.mem_cons.mp ha with rfl | ha
      · exact hx
      · exact Int.le_trans hx (h.1 a ha)
    · rename_i hx
      rw [List.pairwise_cons]
      refine ⟨fun a ha => ?_, ins_sorted x h.2⟩
      rcases List.mem_cons.mp ((ins_perm x r).mem_iff.mp ha) with rfl | ha
      · omega
      · exact h.1 a ha
theorem isort_sorted : ∀ l : List Int, (isort l).Pairwise (· ≤ ·)
  | [] => .nil
  | x :: r => ins_sorted x (isort_sorted r)
theorem isort_uniq {l m : List Int} (h : m.Perm l) (s : m.Pairwise (· ≤ ·)) : m = isort l :=
  List.Perm.eq_of_pairwise (fun a b _ _ h1 h2 => by omega) s (isort_sorted l) (h.trans (isort_perm l).symm)
section
variable {X : Cx} {cl : Cl} {a b c e : Expr} {ia ib ic : E} {pos p p2 : Pos} {es : List Expr} {x : Str} {i : Nat}
/-- no *e -/
theorem plainA_cons {e : Expr} {es : List Expr} {env : PySem.Env} (h : plainA (e :: es) = true) : starEach (e :: es) env = (false, eval e env) :: starEach es env ∧ plainA es = true := by
  cases e <;> first | exact ⟨rfl, h⟩ | cases h
theorem plainA_any {env : PySem.Env} {pos : Pos} : ∀ {es : List Expr}, plainA es = true → (backTo pos (starEach es env)).any (·.1) = false
  | [], _ => rfl
  | e :: es, h => by
    obtain ⟨h1, h2⟩ := plainA_cons (env := env) h
    rw [h1]
    show (false || (backTo pos (starEach es env)).any (·.1)) = false
    rw [plainA_any h2]; rfl
theorem plainA_all {env : PySem.Env} {pos : Pos} : ∀ {es : List Expr}, plainA es = true → (backTo pos (starEach es env)).all (fun x => !x.1) = true
  | [], _ => rfl
  | e :: es, h => by
    obtain ⟨h1, h2⟩ := plainA_cons (env := env) h
    rw [h1]
    show (true && (backTo pos (starEach es env)).all (fun x => !x.1)) = true
    rw [plainA_all h2]; rfl
theorem plainA_ne {e : Expr} {es : List Expr} (h : plainA (e :: es) = true) : ∀ x p, e ≠ .Starred x p := by
  rintro x p rfl; cases h
/-- the reading of a call -/
theorem tI.call {K : PySem.W.Frag} {w : World} {e : E} {ia : E} {f : List Val → Option Res} (hf : ∀ env, ev cl e env = match evs cl ia env with | some (l, env) => mk (f (vals l)) env | none => none) :
    ∀ σ H Q, tI K w cl e σ H Q → tCB (rAr K w f) (tIs K w cl ia) σ H Q := by
  rintro σ H Q ⟨Mo, L, own, env, r, env', rs, e, q⟩
  rw [hf] at e
  split at e
  · rename_i l env1 e1
    refine ⟨Mo, L, own, env, l, env1, rs, e1, fun xs H1 p => ?_⟩
    obtain ⟨own1, m, h⟩ := p.mid
    unfold mk at e
    split at e
    · rename_i r' er
      cases e
      exact ⟨NN Mo own1, _, r, fun a z => m.rs0.nn_some z, h, er, fun z H' d => q z H' (.seq m (d.post m.rs0))⟩
    · cases e
  · cases e
theorem s_bc {id : String} {k : B} (hc : CallR X (.builtin id) (rAr X.K X.w (bcallV k))) (hg : Gl X x) (hm : X.mg x = none) (hv : bootBuiltins x = some (.builtin id)) (ha : PA X (e :: es) (tIs X.K X.w cl ia)) (hp : plainA (e :: es) = true) (hn : x ≠ "__name__") (hdb : (x == ("__debug__" : Str)) = false) :
    PE X (.Call (.Name x p) (e :: es) [] pos) (tI X.K X.w cl (.bcall k ia)) :=
  (pe_callB hc hg hm hv ha hn hdb (plainA_cons hp).1 (plainA_any (plainA_cons (env := X.env) hp).2)).weak (tI.call fun env => by simp only [ev] <;> rfl)
theorem s_bt {id : String} {k : B} (hc : CallR X (.type id) (rAr X.K X.w (bcallV k))) (hg : Gl X x) (hm : X.mg x = none) (hv : bootBuiltins x = some (.type id)) (ha : PA X (e :: es) (tIs X.K X.w cl ia)) (hp : plainA (e :: es) = true) (hn : x ≠ "__name__") (hdb : (x == ("__debug__" : Str)) = false) :
    PE X (.Call (.Name x p) (e :: es) [] pos) (tI X.K X.w cl (.bcall k ia)) :=
  (pe_callTy hc hg hm hv ha hn hdb (plainA_cons hp).1 (plainA_any (plainA_cons (env := X.env) hp).2)).weak (tI.call fun env => by simp only [ev] <;> rfl)
/-! ### max, min, sorted -/
theorem o_max (hc : X.calm = true) : CallR X (.builtin "max") (rAr X.K X.w (oI maxL)) := by
  rintro pins s σ H xs us Q I rv ⟨N, va, r, hN, ra, e, q⟩
  unfold oI iR at e
  split at e
  · split at e
    · rename_i m hm
      split at e
      · rename_i k hk
        cases e
        obtain ⟨x, rfl, rx⟩ := ra.one
        obtain ⟨a, rfl, h, z⟩ := intsOf_seq hm rx
        rcases h with ⟨l, rfl, ha⟩ | ⟨l, rfl, ha⟩
        · exact cr_max hc pins s σ H _ us Q I rv ⟨a, m, rfl, SqL.of ha, maxL_pos hk, fun z h1 h2 => by rw [maxL_eq hk h1 h2]; exact q _ _ (.flat rep_int)⟩
        · rw [Vals.ref1 rv]
          exact QH.max_rawT hc I ha (maxL_pos hk) fun z h1 h2 => by rw [maxL_eq hk h1 h2]; exact q _ _ (.flat rep_int)
      · cases e
    · cases e
  · cases e
theorem o_min (hc : X.calm = true) : CallR X (.builtin "min") (rAr X.K X.w (oI minL)) := by
  rintro pins s σ H xs us Q I rv ⟨N, va, r, hN, ra, e, q⟩
  unfold oI iR at e
  split at e
  · split at e
    · rename_i m hm
      split at e
      · rename_i k hk
        cases e
        obtain ⟨x, rfl, rx⟩ := ra.one
        obtain ⟨a, rfl, h, z⟩ := intsOf_seq hm rx
        rcases h with ⟨l, rfl, ha⟩ | ⟨l, rfl, ha⟩
        · exact cr_min hc pins s σ H _ us Q I rv ⟨a, m, rfl, SqL.of ha, minL_pos hk, fun z h1 h2 => by rw [minL_eq hk h1 h2]; exact q _ _ (.flat rep_int)⟩
        · rw [Vals.ref1 rv]
          exact QH.min_rawT hc I ha (minL_pos hk) fun z h1 h2 => by rw [minL_eq hk h1 h2]; exact q _ _ (.flat rep_int)
      · cases e
    · cases e
  · cases e
theorem DP.intsN {N : AP1} {H : Hp} {m : List Int} {p : Addr} (hp : H p = none) (z : m.length ≤ sizeLine) : DP X.K X.w N H (intsV m, true) (.ref p) (upd H p (.lst (m.map V.int))) :=
  .newL hp (RepL.of_ints m) (by rw [List.length_map]; exact z)
theorem o_sorted (hc : X.calm = true) : CallR X (.builtin "sorted") (rAr X.K X.w (oLl (fun m => intsV (isort m)) true)) := by
  rintro pins s σ H xs us Q I rv ⟨N, va, r, hN, ra, e, q⟩
  unfold oLl at e
  split at e
  · split at e
    · rename_i m hm
      cases e
      obtain ⟨x, rfl, rx⟩ := ra.one
      obtain ⟨a, ys, rfl, ha, na, z, rl⟩ := rx.lst
      have e := rl.ints hm; subst e
      have hl := rl.length
      rw [List.length_map] at hl
      have z' : (isort m).length ≤ sizeLine := by rw [(isort_perm m).length_eq]; omega
      exact cr_sortedI pins s σ H _ us Q I rv ⟨a, m, rfl, SqL.of ha, fun ns' p h1 h2 hp => by rw [isort_uniq h1 h2]; exact q _ _ (.intsN hp z')⟩
    · cases e
  · cases e
theorem o_max3 (hc : X.calm = true) : CallR X (.builtin "max") (rAr X.K X.w fun _ => none) := by
  rintro pins s σ H xs us Q I rv ⟨N, va, r, hN, ra, e, q⟩
  cases e
/-- without those that come again: two ways -/
theorem dedup_mem : ∀ {l : List Int} {k : Int}, k ∈ dedup l ↔ k ∈ l
  | [], k => Iff.rfl
  | x :: r, k => by
    unfold dedup
    split
    · rename_i h
      rw [dedup_mem]
      constructor
      · exact fun z => List.mem_cons_of_mem _ z
      · intro z
        rcases List.mem_cons.mp z with rfl | z
        · exact h
        · exact z
    · rw [List.mem_cons, List.mem_cons, dedup_mem]
theorem dedup_nd : ∀ (l : List Int), (dedup l).Nodup
  | [] => List.nodup_nil
  | x :: r => by
    unfold dedup
    split
    · exact dedup_nd r
    · rename_i h
      exact List.nodup_cons.mpr ⟨fun z => h (dedup_mem.mp z), dedup_nd r⟩
theorem step_nd {l : List Int} (h : l.Nodup) (k : Int) : (step_dedup l k).Nodup ∧ ∀ j, j ∈ step_dedup l k ↔ j ∈ l ∨ j = k := by
  unfold step_dedup
  split
  · rename_i hk
    refine ⟨h, fun j => ⟨.inl, fun z => z.elim id fun e => ?_⟩⟩
    subst e
    obtain ⟨y, hy, e⟩ := List.any_eq_true.mp hk
    rw [beq_iff_eq] at e
    rw [← e]; exact hy
  · rename_i hk
    refine ⟨?_, fun j => by simp⟩
    rw [List.nodup_append]
    refine ⟨h, by simp, fun a ha b hb e => ?_⟩
    simp at hb
    subst hb e
    exact hk (List.any_eq_true.mpr ⟨a, ha, by simp⟩)
theorem fold_nd : ∀ (m l : List Int), l.Nodup → (m.foldl step_dedup l).Nodup ∧ ∀ j, j ∈ m.foldl step_dedup l ↔ j ∈ l ∨ j ∈ m
  | [], l, h => ⟨h, fun j => by simp⟩
  | k :: m, l, h => by
    obtain ⟨h1, h2⟩ := step_nd h k
    obtain ⟨h3, h4⟩ := fold_nd m _ h1
    refine ⟨h3, fun j => ?_⟩
    rw [List.foldl_cons, h4, h2, List.mem_cons, or_assoc]
theorem range_get (m : List Int) : (List.range m.length).map (fun i => m.getD i 0) = m := by
  apply List.ext_getElem?
  intro i
  rw [List.getElem?_map]
  by_cases h : i < m.length
  · rw [List.getElem?_range h, List.getElem?_eq_getElem h]
    simp [List.getD, List.getElem?_eq_getElem h]
  · rw [List.getElem?_eq_none (by simpa using h), List.getElem?_eq_none (by omega)]; rfl
theorem met_dedup (m : List Int) : (∀ k, (firstMet (fun i => m.getD i 0) m.length).any (· == k) = decide (k ∈ dedup m)) ∧ (firstMet (fun i => m.getD i 0) m.length).length = (dedup m).length := by
  unfold firstMet
  rw [range_get]
  obtain ⟨h1, h2⟩ := fold_nd m [] List.nodup_nil
  have hm : ∀ k, k ∈ m.foldl step_dedup [] ↔ k ∈ dedup m := fun k => by rw [h2, dedup_mem]; simp
  refine ⟨fun k => ?_, ?_⟩
  · rw [Bool.eq_iff_iff, List.any_eq_true, decide_eq_true_eq, ← hm]
    constructor
    · rintro ⟨y, hy, e⟩
      rw [beq_iff_eq] at e
      rw [← e]; exact hy
    · exact fun z => ⟨k, z, by simp⟩
  · exact ((List.perm_ext_iff_of_nodup h1 (dedup_nd m)).mpr hm).length_eq
theorem intsAre_of : ∀ {ns : List Int} {us : List Value}, Vals (ns.map V.int) us → PyProof.Rows.IntsAre us ns
  | [], _, .nil => .nil
  | n :: ns, _, .cons r t => by
    obtain ⟨k, rfl⟩ := r
    exact .cons n k (intsAre_of t)
/-- set(ints) -/
theorem set_ints (hc : X.calm = true) {pins : List (Addr × Obj)} {s : Shared} {σ : L2.St} {H : Hp} {a : Addr} {m : List Int} {Q : Value → Shared → Prop} (I : Inv X pins σ H s) (ha : H a = some (.lst (m.map V.int))) (hm : m.length ≤ 4000)
    (q : ∀ s', H s.heap.objs.size = none → Inv X pins σ (upd H s.heap.objs.size (.set (fun i => decide (i ∈ dedup m)) (dedup m).length)) s' → Q (.ref s.heap.objs.size) s') : wpAny (model X.prog X.w) X.A (call (.type "set") [.ref a]) Q X.xe s := by
  obtain ⟨its, r, pl, hz⟩ := I.list (SqL.of ha)
  have hlen : its.toArray.size = m.length := by rw [List.size_toArray, ← r.length, List.length_map]
  refine call_set_list (I.ok.hd hc) pl.isList (by simpa using intsAre_of r) (by rw [hlen]; unfold scanBound; omega) fun h' tk hS hk => ?_
  obtain ⟨m1, m2⟩ := met_dedup m
  rw [hlen, m2] at hS
  exact q _ (I.hok.fresh (Nat.le_refl _)) (I.laid (t' := tk) (fun b o e => hk b o (Heap.lt_size e) e) (Nat.le_refl _) (show ObjOk X.prog X.w _ _ _ (.set _ _) from SetOf_congr hS (fun k => m1 k) rfl))
theorem o_set (hc : X.calm = true) : CallR X (.type "set") (rAr X.K X.w bSet) := by
  rintro pins s σ H xs us Q I rv ⟨N, va, r, hN, ra, e, q⟩
  unfold bSet at e
  split at e
  · split at e
    · rename_i m hm
      split at e
      · rename_i h4
        cases e
        obtain ⟨x, rfl, rx⟩ := ra.one
        obtain ⟨a, ys, rfl, ha, na, z, rl⟩ := rx.lst
        have e := rl.ints hm; subst e
        rw [Vals.ref1 rv]
        refine set_ints hc I ha h4 fun s' hn I' => ⟨.ref s.heap.objs.size, _, I', rfl, q _ _ (.inr ⟨_, _, hn, rfl, rfl, ?_⟩)⟩
        simp only [Bool.false_eq_true, if_false, Rep]
        refine ⟨_, rfl, upd_same, fun z => ?_, trivial⟩
        obtain ⟨o, e⟩ := hN _ z
        rw [hn] at e; cases e
      · cases e
    · cases e
  · cases e
theorem isort_small {m : List Int} (h : m.length ≤ 1) : isort m = m := by
  match m, h with
  | [], _ => rfl
  | [x], _ => rfl
/-- len(set(..)) of a list of bools -/
theorem lenset_bools (hc : X.calm = true) {pins : List (Addr × Obj)} {s : Shared} {σ : L2.St} {H : Hp} {a : Addr} {m : List Bool} {Q : Value → Shared → Prop} (I : Inv X pins σ H s) (ha : H a = some (.lst (m.map V.bl)))
    (q : ∀ s' p, Inv X pins σ H s' → (∃ o es ep t, s'.heap.get? p = some o ∧ o.ExactSet ∧ o.data = .set es ep t ∧ t.fits es.size = true ∧ es.size = ((if true ∈ m then 1 else 0) + (if false ∈ m then 1 else 0))) → Q (.ref p) s') : wpAny (model X.prog X.w) X.A (call (.type "set") [.ref a]) Q X.xe s := by
  obtain ⟨its, r, pl, hz⟩ := I.list (SqL.of ha)
  have hlen : its.toArray.size = m.length := by rw [List.size_toArray, ← r.length, List.length_map]
  refine QH.set_listB m (I.ok.hd hc) pl.isList hlen (fun i v hv => ?_) fun h' tk c hS hk => ?_
  · have hv' : its[i]? = some v := by simpa using hv
    have hi : i < m.length := by
      have := (List.getElem?_eq_some_iff.mp hv').1
      rw [← hlen, List.size_toArray]; exact this
    obtain ⟨u, hu, ru⟩ := r.get (i := i) (x := V.bl m[i]) (by rw [List.getElem?_map, List.getElem?_eq_getElem hi]; rfl)
    rw [hv'] at hu; cases hu
    exact ⟨m[i], List.getElem?_eq_getElem hi, ru⟩
  · obtain ⟨o, es, ep, t, ho, hx, hd, g, nd, hm, hb, hf, hn, _⟩ := id hS
    refine q _ _ (I.kept (t' := tk) hk) ⟨o, es, ep, t, ho, hx, hd, hf, ?_⟩
    rw [hn, QH.setB_count hS]
    simp
/-- len(set(..)), sorted(set(..)) -/
theorem s_lenset {pos2 : Pos} (hc : X.calm = true) (hg : Gl X "len") (hm : X.mg "len" = none) (hg2 : Gl X "set") (hm2 : X.mg "set" = none) (ha : PE X a (tI X.K X.w cl ia)) (hp : plainA [a] = true) :
    PE X (.Call (.Name "len" p) [.Call (.Name "set" p2) [a] [] pos2] [] pos) (tI X.K X.w cl (.bcall .lenset (.cons ia .nil))) := by
  have na := (plainA_cons (env := X.env) hp).1
  refine ⟨fun pins s σ H Q I h => ?_⟩
  obtain ⟨Mo, L, own, env, r, env', rs, e, q⟩ := h
  simp only [ev, evs] at e
  split at e
  · rename_i l env1 e1
    split at e1
    · rename_i u env2 e2
      cases e1
      refine Call_ (ld_blt I hg hm boot_len ?_)
      refine PyProof.Rows.callWith_builtin1 (PyProof.Rows.args_cons ?_ rfl) rfl rfl
      refine Call_ (ld_blt I hg2 hm2 boot_set ?_)
      refine PyProof.Rows.callWith_type1 (PyProof.Rows.args_cons (thn (ha.run pins s σ H _ I ⟨Mo, L, own, env, u, _, rs, e2, fun x H1 pp => pp⟩) fun v s1 ⟨x, H1, I1, r1, pp⟩ => PyProof.Rows.args_nil ?_) na) na rfl
      obtain ⟨own1, m, hr⟩ := pp.mid
      simp only [vals, List.map_cons, List.map_nil, mk, bcallV] at e
      split at e
      · rename_i r' er
        cases e
        unfold bLenset at er
        split at er
        · rename_i l' hl'
          simp only [List.cons.injEq, and_true] at hl'
          rw [hl'] at hr
          obtain ⟨t, xs, rfl, ht, nt, z, rl⟩ := hr.lst
          obtain rfl : v = Value.ref t := r1
          split at er
          · rename_i mm hmm
            split at er
            · rename_i h4
              unfold iR at er
              cases er
              have e := rl.ints hmm; subst e
              refine set_ints hc I1 ht h4 fun s2 hn I2 => ?_
              refine PyProof.Rows.args_nil ?_
              obtain ⟨o, es, ep, tt, ho, hex, hd, _, _, _, hf, hnn⟩ := (show s2.heap.SetOf (intKind X.prog X.w) s1.heap.objs.size _ _ from I2.hok _ _ upd_same)
              have hz2 : (dedup mm).length ≤ mm.length := by
                have h1 := (met_dedup mm).2
                have h2 := firstMet_length_le (fun i => mm.getD i 0) mm.length
                omega
              exact call_len_set ho hex hd hf (by rw [hnn] <;> omega) ⟨.int (dedup mm).length, _, I2.tok _, ⟨_, by rw [hnn]⟩, q _ _ (.seq m (.plain (Mid.alloc m.rs0 hn).drop rep_int))⟩
            · cases er
          · split at er
            · rename_i mm hmm
              unfold iR at er
              cases er
              have e := rl.bools hmm; subst e
              refine lenset_bools hc I1 ht fun s2 p2 I2 ⟨o, es, ep, tt, ho, hex, hd, hf, hnn⟩ => ?_
              refine PyProof.Rows.args_nil ?_
              refine call_len_set ho hex hd hf (by rw [hnn]; split <;> split <;> decide) ⟨.int _, _, I2.tok _, ⟨_, rfl⟩, ?_⟩
              rw [hnn]
              refine q _ _ (.plain m ?_)
              have : (((if true ∈ mm then 1 else 0) + (if false ∈ mm then 1 else 0) : Nat) : Int) = (if true ∈ mm then 1 else 0) + (if false ∈ mm then 1 else 0) := by split <;> split <;> rfl
              rw [this]
              exact rep_int
            · cases er
        · cases er
      · cases e
    · cases e1
  · cases e
theorem sorted_uniq {m ns : List Int} (h1 : ns.Pairwise (· < ·)) (h2 : ∀ k, k ∈ ns ↔ k ∈ m) : ns = isort (dedup m) := by
  have nd : ns.Nodup := h1.imp fun h e => by omega
  have p : ns.Perm (dedup m) := (List.perm_ext_iff_of_nodup nd (dedup_nd m)).mpr fun k => by rw [h2, dedup_mem]
  exact isort_uniq p (h1.imp fun h => by omega)
theorem s_sortedset {pos2 : Pos} (hc : X.calm = true) (hg : Gl X "sorted") (hm : X.mg "sorted" = none) (hg2 : Gl X "set") (hm2 : X.mg "set" = none) (ha : PE X a (tI X.K X.w cl ia)) (hp : plainA [a] = true) :
    PE X (.Call (.Name "sorted" p) [.Call (.Name "set" p2) [a] [] pos2] [] pos) (tI X.K X.w cl (.bcall .sortedset (.cons ia .nil))) := by
  have na := (plainA_cons (env := X.env) hp).1
  refine ⟨fun pins s σ H Q I h => ?_⟩
  obtain ⟨Mo, L, own, env, r, env', rs, e, q⟩ := h
  simp only [ev, evs] at e
  split at e
  · rename_i l env1 e1
    split at e1
    · rename_i u env2 e2
      cases e1
      refine Call_ (ld_blt I hg hm (by rfl) ?_)
      refine PyProof.Rows.callWith_builtin1 (PyProof.Rows.args_cons ?_ rfl) rfl rfl
      refine Call_ (ld_blt I hg2 hm2 boot_set ?_)
      refine PyProof.Rows.callWith_type1 (PyProof.Rows.args_cons (thn (ha.run pins s σ H _ I ⟨Mo, L, own, env, u, _, rs, e2, fun x H1 pp => pp⟩) fun v s1 ⟨x, H1, I1, r1, pp⟩ => PyProof.Rows.args_nil ?_) na) na rfl
      obtain ⟨own1, m, hr⟩ := pp.mid
      simp only [vals, List.map_cons, List.map_nil, mk, bcallV] at e
      split at e
      · rename_i r' er
        cases e
        unfold bSortset at er
        split at er
        · rename_i l' hl'
          simp only [List.cons.injEq, and_true] at hl'
          rw [hl'] at hr
          obtain ⟨t, xs, rfl, ht, nt, z, rl⟩ := hr.lst
          obtain rfl : v = Value.ref t := r1
          split at er
          · rename_i mm hmm
            split at er
            · rename_i h4
              cases er
              have e := rl.ints hmm; subst e
              obtain ⟨its, rv, pl, hz⟩ := I1.list (SqL.of ht)
              refine QH.set_listR mm (I1.ok.hd hc) pl.isList (by simpa using intsAre_of rv) (by unfold scanBound; omega) fun h' tk c hS hcn hk => ?_
              refine PyProof.Rows.args_nil ?_
              have hn := I1.hok.fresh (Nat.le_refl s1.heap.objs.size)
              have I2 : Inv X pins σ (upd H1 s1.heap.objs.size (SetO X.w s1.heap.objs.size (fun j => decide (j ∈ mm)) c)) { s1 with heap := h', toks := tk } := I1.laid (t' := tk) hk (Nat.le_refl _) (setO_new hS)
              refine cr_sortedSet hc pins _ σ _ [.ref s1.heap.objs.size] _ Q I2 (.cons rfl .nil) ⟨_, _, c, rfl, upd_same, by omega, fun ns p q1 q2 q3 hp => ?_⟩
              have e3 := sorted_uniq (m := mm) q1 (fun k => by rw [q2]; simp)
              have m2 := m.two (Mid.alloc (o := SetO X.w s1.heap.objs.size (fun j => decide (j ∈ mm)) c) m.rs0 hn).drop
              rw [e3]
              refine q _ _ (.seq m2 (DP.post m2.rs0 (.intsN hp ?_)))
              rw [(isort_perm _).length_eq, ← (isort_perm (dedup mm)).length_eq, ← e3, q3, sizeL]; omega
            · cases er
          · cases er
        · cases er
      · cases e
    · cases e1
  · cases e
/-- max(.., default=..) -/
theorem s_maxD {kp : Pos} (hc : X.calm = true) (hg : Gl X "max") (hm : X.mg "max" = none) (ha : PE X a (tI X.K X.w cl ia)) (hb : PE X b (tI X.K X.w cl ib)) (hp : plainA [a] = true) :
    PE X (.Call (.Name "max" p) [a] [⟨some "default", b, kp⟩] pos) (tI X.K X.w cl (.bcall .maxD (.cons ia (.cons ib .nil)))) := by
  refine ⟨fun pins s σ H Q I h => ?_⟩
  obtain ⟨Mo, L, own, env, r, env', rs, e, q⟩ := h
  simp only [ev, bcallV, mk] at e
  split at e <;> cases e
theorem s_minD {kp : Pos} (hc : X.calm = true) (hg : Gl X "min") (hm : X.mg "min" = none) (ha : PE X a (tI X.K X.w cl ia)) (hb : PE X b (tI X.K X.w cl ib)) (hp : plainA [a] = true) :
    PE X (.Call (.Name "min" p) [a] [⟨some "default", b, kp⟩] pos) (tI X.K X.w cl (.bcall .minD (.cons ia (.cons ib .nil)))) := by
  refine ⟨fun pins s σ H Q I h => ?_⟩
  obtain ⟨Mo, L, own, env, r, env', rs, e, q⟩ := h
  simp only [ev, bcallV, mk] at e
  split at e <;> cases e
/-! ### list, tuple -/
theorem liR_some {r : Option (Res × Env)} {l : List Val} {env : Env} (h : liR r = some (l, env)) : ∃ x, r = some (x, env) ∧ liV x.1 = some l := by
  unfold liR at h
  split at h
  · split at h
    · cases h; exact ⟨_, rfl, by assumption⟩
    · cases h
  · cases h
theorem liV_seq {K : PySem.W.Frag} {w : World} {N : AP1} {H : Hp} {v : Val} {x : V} {l : List Val} (h : liV v = some l) (r : Rep K w N H v x) :
    ∃ a xs, x = .ref a ∧ (SqL K H a xs ∨ (SqT K H a xs ∧ Rep K w N H (.tup l) x)) ∧ l.length ≤ sizeLine ∧ RepL K w N H l xs := by
  unfold liV at h
  split at h
  · cases h
    obtain ⟨a, xs, rfl, ha, z, rl⟩ := r.scr
    exact ⟨a, xs, rfl, .inl ha.sq, z, rl⟩
  · cases h
    obtain ⟨a, xs, rfl, ha, na, z, rl⟩ := r.lst
    exact ⟨a, xs, rfl, .inl (SqL.of ha), z, rl⟩
  · cases h
    have r0 := r
    obtain ⟨a, xs, rfl, ha, z, rl⟩ := r.tup
    exact ⟨a, xs, rfl, .inr ⟨ha.sq, r0⟩, z, rl⟩
  · cases h
theorem boot_list : bootBuiltins "list" = some (.type "list") := by rfl
theorem boot_tuple : bootBuiltins "tuple" = some (.type "tuple") := by rfl
theorem s_list (hg : Gl X "list") (hm : X.mg "list" = none) (ha : PE X a (tI X.K X.w cl ia)) (hp : plainA [a] = true) : PE X (.Call (.Name "list" p) [a] [] pos) (tI X.K X.w cl (.list ia)) := by
  refine (pe_callTy call_list_of hg hm boot_list (pa_cons ha pa_nil (plainA_cons hp).1) (by decide) (by decide) (plainA_cons hp).1 rfl).weak ?_
  rintro σ H Q ⟨Mo, L, own, env, r, env', rs, e, q⟩
  simp only [ev] at e
  split at e
  · cases e
  split at e
  · rename_i l env1 e1
    cases e
    obtain ⟨y, e2, e3⟩ := liR_some e1
    refine ⟨Mo, L, own, env, y, env', rs, e2, fun x H1 pp => ?_⟩
    obtain ⟨own1, m, h⟩ := pp.mid
    obtain ⟨t, xs, rfl, hq, z, rl⟩ := liV_seq e3 h
    refine ⟨t, xs, rfl, ?_, fun p hp => q _ _ (.seq m (DP.post m.rs0 (.newL hp rl z)))⟩
    rcases hq with hq | ⟨hq, _⟩
    · exact .inl hq
    · exact .inr hq
  · cases e
theorem s_tuple (hg : Gl X "tuple") (hm : X.mg "tuple" = none) (ha : PE X a (tI X.K X.w cl ia)) (hp : plainA [a] = true) : PE X (.Call (.Name "tuple" p) [a] [] pos) (tI X.K X.w cl (.tuple ia)) := by
  refine (pe_callTy call_tuple_of hg hm boot_tuple (pa_cons ha pa_nil (plainA_cons hp).1) (by decide) (by decide) (plainA_cons hp).1 rfl).weak ?_
  rintro σ H Q ⟨Mo, L, own, env, r, env', rs, e, q⟩
  simp only [ev] at e
  split at e
  · cases e
  split at e
  · rename_i l env1 e1
    cases e
    obtain ⟨y, e2, e3⟩ := liR_some e1
    refine ⟨Mo, L, own, env, y, env', rs, e2, fun x H1 pp => ?_⟩
    obtain ⟨own1, m, h⟩ := pp.mid
    obtain ⟨t, xs, rfl, hq, z, rl⟩ := liV_seq e3 h
    refine ⟨t, xs, rfl, ?_⟩
    rcases hq with hq | ⟨hq, rt⟩
    · exact .inl ⟨hq, fun p hp => q _ _ (.seq m (DP.post m.rs0 (.newT (fun a z => m.rs0.nn_some z) hp rl z)))⟩
    · exact .inr ⟨hq, q _ _ (.plain m rt)⟩
  · cases e
/-! ### ranges in list, tuple -/
def PR3 (X : Cx) (e : Expr) (t : L2.St → Hp → (Int → Int → Int → Hp → Prop) → Prop) : Prop :=
  ∀ (pins : List (Addr × Obj)) (s : Shared) (σ : L2.St) (H : Hp) (Q : Int → Int → Int → Hp → Prop), Inv X pins σ H s → t σ H Q →
    wpAny (model X.prog X.w) X.A (eval e X.env) (fun x s' => ∃ r a b c t u v H', x = .ref r ∧ IsRange s'.heap r a b c t u v ∧ Inv X pins σ H' s' ∧ Q a b c H') X.xe s
/-- a range's reading -/
def tR (K : PySem.W.Frag) (w : World) (cl : Cl) (e : E) : L2.St → Hp → (Int → Int → Int → Hp → Prop) → Prop := fun σ H Q => ∃ Mo L own env l env', RS K w Mo L own H σ env ∧ liR (ev cl e env) = some (l, env') ∧
  ∀ (a b c : Int) (H' : Hp) (n : Nat) (own' : Ow), Builtin.Range.small a b c = true → Builtin.Range.rangeSize a b c = (n : Int) → n ≤ 2 ^ 24 → l = rangeL 0 n a c → Mid K w Mo L own H σ own' [] H' env' → Q a b c H'
theorem small_one {i j : Int} (h1 : -(2 ^ 62) ≤ i) (h2 : i < 2 ^ 62) (h3 : -(2 ^ 62) ≤ j) (h4 : j < 2 ^ 62) : Builtin.Range.small i j 1 = true ∧ Builtin.Range.rangeSize i j 1 = (((j - i).toNat : Nat) : Int) := by
  have h := rgC_pos h1 h2 h3 h4 (c := 1) (by decide) (by decide)
  have e : (if i < j then (j - i - 1) / 1 + 1 else 0).toNat = (j - i).toNat := by
    split
    · rw [Int.ediv_one]; congr 1; omega
    · omega
  obtain ⟨a, b, d, f⟩ := h
  refine ⟨d, ?_⟩
  rw [f, e]
theorem okLen_24 {n : Nat} (h : okLen n = true) : n ≤ 2 ^ 24 := by simpa [okLen] using h
theorem pr_1 (hg : Gl X "range") (hm : X.mg "range" = none) (ha : PE X a (tI X.K X.w cl ia)) (h1 : plainA [a] = true) : PR3 X (.Call (.Name "range" p) [a] [] pos) (tR X.K X.w cl (.range (.cons ia .nil))) := by
  rintro pins s σ H Q I ⟨Mo, L, own, env, l, env', rs, e, q⟩
  obtain ⟨y, e1, e2⟩ := liR_some e
  simp only [ev, evs] at e1
  split at e1
  · rename_i l2 env2 e3
    split at e1
    · rename_i m em
      cases e1
      cases e2
      split at e3
      · rename_i x1 env3 e4
        cases e3
        obtain ⟨j, hj, hk, rfl⟩ := range1_inv em
        simp only [Bool.and_eq_true] at hk
        obtain ⟨b1, b2⟩ := ok62_ok hk.1
        refine Call_ (ld_blt I hg hm boot_range (PyProof.Rows.callWith_type1 (one_arg ha I ⟨Mo, L, own, env, x1, env', rs, e4, fun x H1 pp => pp⟩ (fun v s2 x H2 I2 r q2 => ?_) (plainA_cons h1).1) (plainA_cons h1).1))
        obtain ⟨own1, mm, h⟩ := q2.mid
        have h : Rep X.K X.w (NN Mo own1) H2 (.int j) x := hj ▸ h
        have := h.int; subst this
        obtain ⟨t, rfl⟩ := r
        obtain ⟨z1, z2⟩ := small_one (i := 0) (j := j) (by decide) (by decide) b1 b2
        rw [Int.sub_zero] at z2
        exact call_range_1 ⟨_, 0, j, 1, _, _, _, H2, rfl, IsRange.new _ _ _ _ _ _ _, I2.kept fun b u e => Heap.get?_push_of_some _ e, q _ _ _ _ _ own1 z1 z2 (okLen_24 hk.2) rfl mm⟩
      · cases e3
    · cases e1
  · cases e1
theorem pr_2 (hg : Gl X "range") (hm : X.mg "range" = none) (ha : PE X a (tI X.K X.w cl ia)) (hb : PE X b (tI X.K X.w cl ib)) (h1 : plainA [a, b] = true) : PR3 X (.Call (.Name "range" p) [a, b] [] pos) (tR X.K X.w cl (.range (.cons ia (.cons ib .nil)))) := by
  rintro pins s σ H Q I ⟨Mo, L, own, env, l, env', rs, e, q⟩
  obtain ⟨y, e1, e2⟩ := liR_some e
  simp only [ev, evs] at e1
  split at e1
  · rename_i l2 env2 e3
    split at e1
    · rename_i m em
      cases e1
      cases e2
      split at e3
      · rename_i x1 env3 e4
        split at e3
        · rename_i l3 env4 e5
          cases e3
          split at e5
          · rename_i x2 env5 e6
            cases e5
            obtain ⟨i, j, hi, hj, hk, rfl⟩ := range2_inv em
            simp only [Bool.and_eq_true] at hk
            obtain ⟨b1, b2⟩ := ok62_ok hk.1.1
            obtain ⟨b3, b4⟩ := ok62_ok hk.1.2
            obtain ⟨n1, h2⟩ := plainA_cons (env := X.env) h1
            refine Call_ (ld_blt I hg hm boot_range (PyProof.Rows.callWith_type1 (args_cons (thn (ha.run pins s σ H _ I ⟨Mo, L, own, env, x1, env3, rs, e4, fun x H1 pp => pp⟩) fun v s1 ⟨x, H1, I1, r1, p1⟩ => ?_) n1) n1 (plainA_any h2)))
            obtain ⟨own1, mm, h⟩ := p1.mid
            refine one_arg hb I1 ⟨Mo, L, own1, env3, x2, env', mm.rs0, e6, fun x H1 pp => pp⟩ (fun u s2 y H2 I2 r2 p2 => ?_) (plainA_cons h2).1
            obtain ⟨own2, mm2, g⟩ := p2.mid
            have h : Rep X.K X.w (NN Mo own1) H1 (.int i) x := hi ▸ h
            have := h.int; subst this
            have g : Rep X.K X.w (NN Mo own2) H2 (.int j) y := hj ▸ g
            have := g.int; subst this
            obtain ⟨t, rfl⟩ := r1
            obtain ⟨t', rfl⟩ := r2
            obtain ⟨z1, z2⟩ := small_one b1 b2 b3 b4
            exact call_range_2 ⟨_, i, j, 1, _, _, _, H2, rfl, IsRange.new _ _ _ _ _ _ _, I2.kept fun b u e => Heap.get?_push_of_some _ e, q _ _ _ _ _ own2 z1 z2 (okLen_24 hk.2) rfl (mm.two mm2)⟩
          · cases e5
        · cases e3
      · cases e3
    · cases e1
  · cases e1
theorem repL_range {K : PySem.W.Frag} {w : World} {N : AP1} {H : Hp} : ∀ (n lo : Nat) (a c : Int), RepL K w N H (rangeL lo n a c) ((List.range' lo n).map fun i => V.int (a + c * (i : Nat)))
  | 0, _, _, _ => RepL.nil
  | n + 1, lo, a, c => RepL.cons (by simp [Rep]) (repL_range n (lo + 1) a c)
theorem vals_rgC {a c : Int} {n : Nat} {acc : Array Value} (h : ItemsOf (fun i v => ∃ t, v = .int (a + i * c) t) acc n) : Vals ((List.range' 0 n).map fun i => V.int (a + c * (i : Nat))) acc.toList := by
  have e : acc.toList.length = n := by rw [Array.length_toList]; exact h.1
  rw [← e, ← List.range_eq_range']
  refine vals_of_get acc.toList _ fun j u hj => ?_
  obtain ⟨t, rfl⟩ := h.2 j u (by rw [← hj, Array.getElem?_toList])
  exact ⟨t, by rw [Int.mul_comm]⟩
theorem s_listR (hc : X.calm = true) (hg : Gl X "list") (hm : X.mg "list" = none) (he : PR3 X e (tR X.K X.w cl ia)) (hp : plainA [e] = true) : PE X (.Call (.Name "list" p) [e] [] pos) (tI X.K X.w cl (.list ia)) := by
  have na := (plainA_cons (env := X.env) hp).1
  refine ⟨fun pins s σ H Q I h => ?_⟩
  obtain ⟨Mo, L, own, env, r, env', rs, ee, q⟩ := h
  simp only [ev] at ee
  split at ee
  · cases ee
  split at ee
  · rename_i l env1 e1
    cases ee
    refine Call_ (ld_blt I hg hm boot_list (PyProof.Rows.callWith_type1 (args_cons (thn (he pins s σ H _ I ⟨Mo, L, own, env, l, env', rs, e1, fun a b c H' n own' z1 z2 z3 z4 mm => (⟨n, own', z1, z2, z3, z4, mm⟩ : ∃ (n : Nat) (own' : Ow), Builtin.Range.small a b c = true ∧ Builtin.Range.rangeSize a b c = (n : Int) ∧ n ≤ 2 ^ 24 ∧ l = rangeL 0 n a c ∧ Mid X.K X.w Mo L own H σ own' [] H' env')⟩) fun x s1 ⟨r, a, b, c, t, u, v, H1, ex, hr, I1, n, own1, z1, z2, z3, z4, mm⟩ => args_nil ?_) na) na))
    subst ex z4
    refine call_list_range (n := n) (I1.ok.hd hc) hr z1 z2 z3 fun h' tk acc c' hk e' hi => ?_
    have hz : n ≤ sizeLine := by rw [sizeL]; omega
    refine ⟨.ref s1.heap.objs.size, upd H1 s1.heap.objs.size (.lst ((List.range' 0 n).map fun i => V.int (a + c * (i : Nat)))), I1.laid hk (Nat.le_refl _) (show ObjOk X.prog X.w _ _ _ (.lst _) from ⟨?_, acc.toList, c', vals_rgC hi, ?_⟩), rfl, q _ _ (.seq mm (DP.post mm.rs0 (.newL (I1.hok.fresh (Nat.le_refl _)) (repL_range n 0 a c) ?_)))⟩
    · rw [List.length_map, List.length_range']; exact hz
    · rw [Array.toArray_toList]; exact e'
    · rw [rangeL_len]; exact hz
  · cases ee
theorem s_tupleR (hc : X.calm = true) (hg : Gl X "tuple") (hm : X.mg "tuple" = none) (he : PR3 X e (tR X.K X.w cl ia)) (hp : plainA [e] = true) : PE X (.Call (.Name "tuple" p) [e] [] pos) (tI X.K X.w cl (.tuple ia)) := by
  have na := (plainA_cons (env := X.env) hp).1
  refine ⟨fun pins s σ H Q I h => ?_⟩
  obtain ⟨Mo, L, own, env, r, env', rs, ee, q⟩ := h
  simp only [ev] at ee
  split at ee
  · cases ee
  split at ee
  · rename_i l env1 e1
    cases ee
    refine Call_ (ld_blt I hg hm boot_tuple (PyProof.Rows.callWith_type1 (args_cons (thn (he pins s σ H _ I ⟨Mo, L, own, env, l, env', rs, e1, fun a b c H' n own' z1 z2 z3 z4 mm => (⟨n, own', z1, z2, z3, z4, mm⟩ : ∃ (n : Nat) (own' : Ow), Builtin.Range.small a b c = true ∧ Builtin.Range.rangeSize a b c = (n : Int) ∧ n ≤ 2 ^ 24 ∧ l = rangeL 0 n a c ∧ Mid X.K X.w Mo L own H σ own' [] H' env')⟩) fun x s1 ⟨r, a, b, c, t, u, v, H1, ex, hr, I1, n, own1, z1, z2, z3, z4, mm⟩ => args_nil ?_) na) na))
    subst ex z4
    refine call_tuple_range (n := n) (I1.ok.hd hc) hr z1 z2 (by omega) fun h' tk acc hk hi => ?_
    have hz : n ≤ sizeLine := by rw [sizeL]; omega
    have I2 : Inv X pins σ H1 { s1 with heap := h', toks := tk } := I1.kept hk
    refine ⟨.ref h'.objs.size, upd H1 h'.objs.size (.tup ((List.range' 0 n).map fun i => V.int (a + c * (i : Nat)))), I2.laid (t' := tk) (fun c o e => Heap.get?_push_of_some _ e) (Nat.le_refl _) (show ObjOk X.prog X.w _ _ _ (.tup _) from ⟨?_, acc.toList, vals_rgC hi, ?_⟩), rfl, q _ _ (.seq mm (DP.post mm.rs0 (.newT (fun a z => mm.rs0.nn_some z) (I2.hok.fresh (Nat.le_refl _)) (repL_range n 0 a c) ?_)))⟩
    · rw [List.length_map, List.length_range']; exact hz
    · rw [Array.toArray_toList]; exact IsTup.new _ _
    · rw [rangeL_len]; exact hz
  · cases ee
/-- range with a step -/
theorem pr_3 {d : Expr} {id : E} (hg : Gl X "range") (hm : X.mg "range" = none) (ha : PE X a (tI X.K X.w cl ia)) (hb : PE X b (tI X.K X.w cl ib)) (hd : PE X d (tI X.K X.w cl id)) (h1 : plainA [a, b, d] = true) : PR3 X (.Call (.Name "range" p) [a, b, d] [] pos) (tR X.K X.w cl (.range (.cons ia (.cons ib (.cons id .nil))))) := by
  rintro pins s σ H Q I ⟨Mo, L, own, env, l, env', rs, e, q⟩
  obtain ⟨y, e1, e2⟩ := liR_some e
  simp only [ev, evs] at e1
  split at e1
  · rename_i l2 env2 e3
    split at e1
    · rename_i m em
      cases e1
      cases e2
      split at e3
      · rename_i x1 env3 e4
        split at e3
        · rename_i l3 env4 e5
          cases e3
          split at e5
          · rename_i x2 env5 e6
            split at e5
            · rename_i l4 env6 e7
              cases e5
              split at e7
              · rename_i x3 env7 e8
                cases e7
                obtain ⟨i, j, c, hi, hj, hcc, hk, rfl⟩ := range3_inv em
                simp only [Bool.and_eq_true, decide_eq_true_eq] at hk
                obtain ⟨b1, b2⟩ := ok62_ok hk.1.1.1.1
                obtain ⟨b3, b4⟩ := ok62_ok hk.1.1.1.2
                obtain ⟨n1, h2⟩ := plainA_cons (env := X.env) h1
                obtain ⟨n2, h3⟩ := plainA_cons (env := X.env) h2
                refine Call_ (ld_blt I hg hm boot_range (PyProof.Rows.callWith_type1 (args_cons (thn (ha.run pins s σ H _ I ⟨Mo, L, own, env, x1, env3, rs, e4, fun x H1 pp => pp⟩) fun v s1 ⟨x, H1, I1, r1, p1⟩ => ?_) n1) n1 (plainA_any h2)))
                obtain ⟨own1, mm, g1⟩ := p1.mid
                refine args_cons (thn (hb.run pins s1 σ H1 _ I1 ⟨Mo, L, own1, env3, x2, env5, mm.rs0, e6, fun x H1 pp => pp⟩) fun v2 s2 ⟨y2, H2, I2, r2, p2⟩ => ?_) n2
                obtain ⟨own2, mm2, g2⟩ := p2.mid
                refine one_arg hd I2 ⟨Mo, L, own2, env5, x3, env', mm2.rs0, e8, fun x H1 pp => pp⟩ (fun u s3 y3 H3 I3 r3 p3 => ?_) (plainA_cons h3).1
                obtain ⟨own3, mm3, g3⟩ := p3.mid
                have g1 : Rep X.K X.w (NN Mo own1) H1 (.int i) x := hi ▸ g1
                have := g1.int; subst this
                have g2 : Rep X.K X.w (NN Mo own2) H2 (.int j) y2 := hj ▸ g2
                have := g2.int; subst this
                have g3 : Rep X.K X.w (NN Mo own3) H3 (.int c) y3 := hcc ▸ g3
                have := g3.int; subst this
                obtain ⟨t, rfl⟩ := r1
                obtain ⟨t', rfl⟩ := r2
                obtain ⟨t'', rfl⟩ := r3
                obtain ⟨_, _, z1, z2⟩ := rgC_pos b1 b2 b3 b4 hk.1.2 hk.2
                have hcnt : (if i < j then (j - i - 1) / c + 1 else 0).toNat ≤ 2 ^ 24 := by
                  have hl := okLen_24 hk.1.1.2
                  split
                  · have : (j - i - 1) / c ≤ j - i - 1 := Int.ediv_le_self _ (by omega)
                    omega
                  · simp
                exact call_range_3 (by omega) ⟨_, i, j, c, _, _, _, H3, rfl, IsRange.new _ _ _ _ _ _ _, I3.kept fun b u e => Heap.get?_push_of_some _ e, q _ _ _ _ _ own3 z1 z2 hcnt rfl ((mm.two mm2).two mm3)⟩ (.inl (PyProof.noPylong_small (by omega)))
              · cases e7
            · cases e5
          · cases e5
        · cases e3
      · cases e3
    · cases e1
  · cases e1
/-- list(zip(..)) -/
theorem s_listZ2 {pos2 : Pos} (hc : X.calm = true) (hg : Gl X "list") (hm : X.mg "list" = none) (hg2 : Gl X "zip") (hm2 : X.mg "zip" = none) (ha : PE X a (tI X.K X.w cl ia)) (hb : PE X b (tI X.K X.w cl ib)) (h1 : plainA [a, b] = true) :
    PE X (.Call (.Name "list" p) [.Call (.Name "zip" p2) [a, b] [] pos2] [] pos) (tI X.K X.w cl (.list (.zip (.cons ia (.cons ib .nil))))) := by
  refine ⟨fun pins s σ H Q I h => ?_⟩
  obtain ⟨Mo, L, own, env, r, env', rs, e, q⟩ := h
  simp only [ev, isZipE, if_true] at e
  cases e
theorem s_listZ3 {d : Expr} {id : E} {pos2 : Pos} (hc : X.calm = true) (hg : Gl X "list") (hm : X.mg "list" = none) (hg2 : Gl X "zip") (hm2 : X.mg "zip" = none) (ha : PE X a (tI X.K X.w cl ia)) (hb : PE X b (tI X.K X.w cl ib)) (hd : PE X d (tI X.K X.w cl id)) (h1 : plainA [a, b, d] = true) :
    PE X (.Call (.Name "list" p) [.Call (.Name "zip" p2) [a, b, d] [] pos2] [] pos) (tI X.K X.w cl (.list (.zip (.cons ia (.cons ib (.cons id .nil)))))) := by
  refine ⟨fun pins s σ H Q I h => ?_⟩
  obtain ⟨Mo, L, own, env, r, env', rs, e, q⟩ := h
  simp only [ev, isZipE, if_true] at e
  cases e
theorem s_tupleZ2 {pos2 : Pos} (hc : X.calm = true) (hg : Gl X "tuple") (hm : X.mg "tuple" = none) (hg2 : Gl X "zip") (hm2 : X.mg "zip" = none) (ha : PE X a (tI X.K X.w cl ia)) (hb : PE X b (tI X.K X.w cl ib)) (h1 : plainA [a, b] = true) :
    PE X (.Call (.Name "tuple" p) [.Call (.Name "zip" p2) [a, b] [] pos2] [] pos) (tI X.K X.w cl (.tuple (.zip (.cons ia (.cons ib .nil))))) := by
  refine ⟨fun pins s σ H Q I h => ?_⟩
  obtain ⟨Mo, L, own, env, r, env', rs, e, q⟩ := h
  simp only [ev, isZipE, if_true] at e
  cases e
theorem s_tupleZ3 {d : Expr} {id : E} {pos2 : Pos} (hc : X.calm = true) (hg : Gl X "tuple") (hm : X.mg "tuple" = none) (hg2 : Gl X "zip") (hm2 : X.mg "zip" = none) (ha : PE X a (tI X.K X.w cl ia)) (hb : PE X b (tI X.K X.w cl ib)) (hd : PE X d (tI X.K X.w cl id)) (h1 : plainA [a, b, d] = true) :
    PE X (.Call (.Name "tuple" p) [.Call (.Name "zip" p2) [a, b, d] [] pos2] [] pos) (tI X.K X.w cl (.tuple (.zip (.cons ia (.cons ib (.cons id .nil)))))) := by
  refine ⟨fun pins s σ H Q I h => ?_⟩
  obtain ⟨Mo, L, own, env, r, env', rs, e, q⟩ := h
  simp only [ev, isZipE, if_true] at e
  cases e
/-- zip of three, walked -/
theorem p_zip3 {elts : List Expr} {kk : Nat} {tpos : Pos} {d : Expr} {id : E} (hc : X.calm = true) (hg : Gl X "zip") (hm : X.mg "zip" = none) (ha : PE X a (tI X.K X.w cl ia)) (hb : PE X b (tI X.K X.w cl ib)) (hd : PE X d (tI X.K X.w cl id)) (h1 : plainA [a, b, d] = true) :
    PI X (.Tuple elts kk tpos) (.Call (.Name "zip" p) [a, b, d] [] pos) (iI X.K X.w cl (.zip (.cons ia (.cons ib (.cons id .nil))))) := by
  refine ⟨fun pins s σ H R I h => ?_⟩
  obtain ⟨Mo, L, own, env, l, env', rs, e, q⟩ := h
  exfalso
  simp only [ev, evs] at e
  unfold itR at e
  split at e
  · rename_i x env1 e1
    split at e1
    · rename_i l2 env2 e2
      split at e2
      · split at e2
        · rename_i l3 env3 e3
          split at e3
          · split at e3
            · rename_i l4 env4 e4
              split at e4
              · cases e4; cases e3; cases e2
                simp [vals, zipV] at e1
              · cases e4
            · cases e3
          · cases e3
        · cases e2
      · cases e2
    · cases e1
  · cases e
end
end Q

end
section
set_option Elab.async false
set_option linter.all false
set_option maxRecDepth 100000
/-! Q: methods, isinstance, dict displays. -/
namespace Q
open PySem PySem.Spec PyProof.Rows L2
/-! ### isinstance -/
def tyS : Ty → String
  | .int => "int" | .bool => "bool" | .str => "str" | .list => "list" | .tuple => "tuple"
def vtS : Val → String
  | .none => "NoneType" | .bool _ => "bool" | .int _ => "int" | .str _ => "str" | .lst _ => "list" | _ => "tuple"
def subS (a b : String) : Bool := a == b || (a == "bool" && b == "int")
theorem kit_tab : ∀ a ∈ ["NoneType", "bool", "int", "str", "list", "tuple"], ∀ b ∈ ["int", "bool", "str", "list", "tuple"], kitB a b = some (subS a b) := by decide +kernel
theorem tyS_mem (t : Ty) : tyS t ∈ ["int", "bool", "str", "list", "tuple"] := by cases t <;> decide
theorem vtS_mem (v : Val) : vtS v ∈ ["NoneType", "bool", "int", "str", "list", "tuple"] := by cases v <;> simp [vtS]
theorem isTy_sub {t : Ty} {v : Val} {k : Bool} (h : isTy t v = some k) : k = subS (vtS v) (tyS t) := by
  cases t <;> cases v <;> simp only [isTy, Option.some.injEq, reduceCtorEq] at h <;> subst h <;> rfl
section
variable {K : PySem.W.Frag} {w : World} {N : AP1} {H : Hp}
theorem tyX_of {t : Ty} {v : Val} {k : Bool} {x : V} (h : isTy t v = some k) (r : Rep K w N H v x) : TyX K H x (.type (vtS v)) := by
  cases v with
  | none => have e := r; simp only [Rep] at e; subst e; exact .base .non
  | bool b => have e := r.bool; subst e; exact .base (.bl b)
  | int i => have e := r.int; subst e; exact .base (.int i)
  | str z => have e := r.str; subst e; exact .base (.str z)
  | tup l =>
    obtain ⟨a, xs, rfl, ha, z, rl⟩ := r.tup
    rcases ha with ⟨ha | ⟨o, ha⟩, _⟩ | ⟨o, its, n, h1, h2, _⟩
    · exact .base (.tup ha)
    · exact .fTuple ha
    · exact .kTuple h1 h2
  | lst l => obtain ⟨a, xs, rfl, ha, na, z, rl⟩ := r.lst; exact .base (.lst ha)
  | dict ks vs => cases t <;> simp [isTy] at h
  | set l => cases t <;> simp [isTy] at h
  | scr l => cases t <;> simp [isTy] at h
theorem isTys_kit {v : Val} : ∀ {ts : List Ty} {k : Bool}, isTys ts v = some k → PySem.W.kitAny K (.type (vtS v)) (ts.map fun t => Value.type (tyS t)) = some k
  | [], k, h => by simp only [isTys, Option.some.injEq] at h; subst h; rfl
  | t :: r, k, h => by
    have tab := kit_tab _ (vtS_mem v) _ (tyS_mem t)
    unfold isTys at h
    split at h
    · rename_i e
      cases h
      have e' := isTy_sub e
      refine kitAny_cons (b := true) (kit_ty (by rw [tab, ← e'])) (fun z => nomatch z) fun _ => rfl
    · rename_i e
      have e' := isTy_sub e
      exact kitAny_cons (b := false) (kit_ty (by rw [tab, ← e'])) (fun _ => isTys_kit h) fun z => nomatch z
    · cases h
theorem isTys_ty {v : Val} : ∀ {ts : List Ty} {k : Bool}, ts ≠ [] → isTys ts v = some k → ∃ t k', isTy t v = some k'
  | [], _, h, _ => absurd rfl h
  | t :: r, k, _, h => by
    unfold isTys at h
    split at h
    · rename_i e; exact ⟨t, _, e⟩
    · rename_i e; exact ⟨t, _, e⟩
    · cases h
end
section
variable {X : Cx} {cl : Cl} {a b c e : Expr} {ia ib ic : E} {pos p p1 p2 p3 : Pos} {es : List Expr} {x y z : Str} {i : Nat}
theorem boot_isi : bootBuiltins "isinstance" = some (.builtin "isinstance") := by rfl
theorem boot_ty {x : Str} {t : Ty} (h : x = Str.ofString (tyS t)) : bootBuiltins x = some (.type (tyS t)) ∧ x ≠ "__name__" ∧ (x == ("__debug__" : Str)) = false := by
  subst h
  cases t <;> exact ⟨rfl, by decide, by decide⟩
theorem tyN {t : Ty} (hx : x = Str.ofString (tyS t)) (hg : Gl X x) (hm : X.mg x = none) : PE X (.Name x p) (tC (.ty (tyS t))) := by
  obtain ⟨h1, h2, h3⟩ := boot_ty hx
  exact pe_bltn hg hm h1 rfl h2 h3
theorem s_isi1 {t : Ty} (hg : Gl X "isinstance") (hm : X.mg "isinstance" = none) (ha : PE X a (tI X.K X.w cl ia)) (hx : x = Str.ofString (tyS t)) (hgx : Gl X x) (hmx : X.mg x = none) (hp : plainA [a] = true) :
    PE X (.Call (.Name "isinstance" p) [a, .Name x p1] [] pos) (tI X.K X.w cl (.isi ia [t])) := by
  have hn : plainA [a, .Name x p1] = true := by cases a <;> first | rfl | cases hp
  obtain ⟨h1, h2⟩ := plainA_cons (env := X.env) hn
  refine (pe_callB call_isi hg hm boot_isi (pa_cons ha (pa_cons (tyN hx hgx hmx) pa_nil (plainA_cons h2).1) h1) (by decide) (by decide) h1 (plainA_any h2)).weak ?_
  rintro σ H Q ⟨Mo, L, own, env, r, env', rs, e, q⟩
  simp only [ev] at e
  split at e
  · rename_i v env1 e1
    refine ⟨Mo, L, own, env, v, env1, rs, e1, fun x1 H1 pp => ?_⟩
    obtain ⟨own1, m, h⟩ := pp.mid
    unfold mkB mk bR at e
    cases hk : isTys [t] v.1 with
    | none => rw [hk] at e; cases e
    | some k =>
      rw [hk] at e
      cases e
      obtain ⟨t', k', hk'⟩ := isTys_ty (by simp) hk
      have kk := isTys_kit (K := X.K) hk
      simp only [List.map_cons, List.map_nil] at kk
      have tab := kit_tab _ (vtS_mem v.1) _ (tyS_mem t)
      refine ⟨x1, .ty (tyS t), _, _, k, rfl, .ty _, tyX_of hk' h, ?_, q _ _ (.plain m rep_bool)⟩
      rw [kit_ty tab]
      unfold isTys at hk
      split at hk
      · rename_i e2; cases hk; rw [← isTy_sub e2]
      · rename_i e2
        simp only [isTys, Option.some.injEq] at hk
        subst hk; rw [← isTy_sub e2]
      · cases hk
  · cases e
theorem s_isi2 {t u : Ty} {n : Nat} (hg : Gl X "isinstance") (hm : X.mg "isinstance" = none) (ha : PE X a (tI X.K X.w cl ia)) (hx : x = Str.ofString (tyS t)) (hgx : Gl X x) (hmx : X.mg x = none) (hy : y = Str.ofString (tyS u)) (hgy : Gl X y) (hmy : X.mg y = none) (hp : plainA [a] = true) :
    PE X (.Call (.Name "isinstance" p) [a, .Tuple [.Name x p1, .Name y p2] n p3] [] pos) (tI X.K X.w cl (.isi ia [t, u])) := by
  have hn : plainA [a, .Tuple [.Name x p1, .Name y p2] n p3] = true := by cases a <;> first | rfl | cases hp
  obtain ⟨h1, h2⟩ := plainA_cons (env := X.env) hn
  refine (pe_callB call_isiT hg hm boot_isi (pa_cons ha (pa_cons (pe_tup (pa_cons (tyN hx hgx hmx) (pa_cons (tyN hy hgy hmy) pa_nil rfl) rfl)) pa_nil (plainA_cons h2).1) h1) (by decide) (by decide) h1 (plainA_any h2)).weak ?_
  rintro σ H Q ⟨Mo, L, own, env, r, env', rs, e, q⟩
  simp only [ev] at e
  split at e
  · rename_i v env1 e1
    refine ⟨Mo, L, own, env, v, env1, rs, e1, fun x1 H1 pp => ?_⟩
    obtain ⟨own1, m, h⟩ := pp.mid
    refine ⟨by show 2 ≤ sizeLine; decide, fun p hp => ?_⟩
    unfold mkB mk bR at e
    cases hk : isTys [t, u] v.1 with
    | none => rw [hk] at e; cases e
    | some k =>
      rw [hk] at e
      cases e
      obtain ⟨t', k', hk'⟩ := isTys_ty (by simp) hk
      have m2 : Mid X.K X.w Mo L own H σ own1 [] (upd H1 p (.tup [.ty (tyS t), .ty (tyS u)])) env' := m.two (Mid.alloc m.rs0 hp).drop
      have h' : Rep X.K X.w (NN Mo own1) (upd H1 p (.tup [.ty (tyS t), .ty (tyS u)])) v.1 x1 := (Mid.alloc (o := .tup [.ty (tyS t), .ty (tyS u)]) m.rs0 hp).drop.val h
      exact ⟨x1, p, [.ty (tyS t), .ty (tyS u)], _, [.type (tyS t), .type (tyS u)], k, rfl, upd_same, .cons (.ty _) (.cons (.ty _) .nil), tyX_of hk' h', isTys_kit hk, q _ _ (.plain m2 rep_bool)⟩
  · cases e
/-! ### methods -/
theorem base_ok {o : Expr} {m : Str} {env : PySem.Env} (h : baseOk o = true) : attributeBase o m env (eval o env) = eval o env := by
  unfold attributeBase
  split
  · cases h
  · rfl
theorem few_ok {es : List Expr} {env : PySem.Env} {cpos : Pos} (hp : plainA es = true) (hl : es.length < 30) :
    ((backTo cpos (starEach es env)).all (fun x => !x.1) && (backToKw cpos (keywordEach [] env)).all (fun x => x.1.isSome) && decide (es.length + ([] : List Keyword).length + (if ([] : List Keyword).isEmpty then 0 else 1) < 30)) = true := by
  rw [plainA_all hp]
  show (true && true && decide (es.length + 0 + 0 < 30)) = true
  simp [hl]
theorem hasL_some {env : Env} {i : Nat} (h : hasL env i = true) : ∃ l k, eget env i = some (.lst l, k) := by
  unfold hasL at h
  split at h
  · exact ⟨_, _, by assumption⟩
  · cases h
theorem hasD_some {env : Env} {i : Nat} (h : hasD env i = true) : ∃ ks vs k, eget env i = some (.dict ks vs, k) := by
  unfold hasD at h
  split at h
  · exact ⟨_, _, _, by assumption⟩
  · cases h
theorem SlotV.isL {N : AP1} {H : Hp} {l : List Val} {x : V} (s : SlotV X.K X.w N H (.lst l) x) : tyV X.K "list" x H := by
  obtain ⟨a, xs, rfl, ha, z, rl⟩ := s.lst
  exact .inl ⟨rfl, xs, SqL.of ha⟩
/-- an owned slot -/
theorem RS.ownAt {K : PySem.W.Frag} {w : World} {Mo : AP1} {L : Option Addr} {own : Ow} {H : Hp} {σ : L2.St} {env : Env} (rs : RS K w Mo L own H σ env) {i : Nat} {v : Val} {k : Fl} (h : eget env i = some (v, k)) (hk : k ≠ .sh) :
    ∃ a, own i = some a ∧ σ[i]? = some (some (.ref a)) ∧ Own K w (NN Mo own) H a v ∧ (k = .ln → L = some a) := by
  have q := rs.slot i
  rw [h] at q
  cases k with
  | sh => exact absurd rfl hk
  | ow => obtain ⟨a, e1, e2, o⟩ := q; exact ⟨a, e1, e2, o, fun z => nomatch z⟩
  | ln => obtain ⟨a, e1, e3, e2, o⟩ := q; exact ⟨a, e1, e2, o, fun _ => e3⟩
theorem setO_id {own : Ow} {i : Nat} {a : Addr} (h : own i = some a) : setO own i (some a) = own := by
  funext j
  unfold setO
  split
  · rename_i e; rw [e, h]
  · rfl
/-- an owned slot's thing changed -/
theorem RS.store {K : PySem.W.Frag} {w : World} {Mo : AP1} {L : Option Addr} {own : Ow} {H : Hp} {σ : L2.St} {env : Env} (rs : RS K w Mo L own H σ env) {i : Nat} {v v' : Val} {k : Fl} {a : Addr} {o : HO} (h : eget env i = some (v, k)) (hk : k ≠ .sh) (ha : own i = some a)
    (ho : Own K w (NN Mo own) (upd H a o) a v') : RS K w Mo L own (upd H a o) σ (eset env i (some (v', k))) ∧ Keep Mo own H own (upd H a o) [] := by
  have nM : ∀ b, Mo b → b ≠ a := fun b z e => rs.nmo i a ha (e ▸ z)
  have kp : Kp (NN Mo own) H (NN Mo own) (upd H a o) := fun b u e n => ⟨⟨u, by rw [upd_ne (fun z => n (.inr ⟨i, by rw [z]; exact ha⟩))]; exact e, .refl⟩, n⟩
  have nj : ∀ j b, j ≠ i → own j = some b → b ≠ a := fun j b hj e z => hj (rs.inj j i a (z ▸ e) ha)
  constructor
  · obtain ⟨a', e1, e2, _, hl⟩ := rs.ownAt h hk
    rw [ha] at e1; cases e1
    have r := rs.change (i := i) (s := some (v', k)) (o := some a) (Mo' := Mo) (H' := upd H a o) (σ' := σ) (eget_lt h) (by rw [setO_id ha]; exact kp) (fun j b hj e u q => by rw [upd_ne (nj j b hj e)]; exact q) rfl (fun _ _ => rfl)
      (fun b z => by obtain ⟨u, e⟩ := rs.mos b z; exact ⟨u, by rw [upd_ne (nM b z)]; exact e⟩) (fun j b _ e => rs.nmo j b e) (fun b z => by cases z; exact ⟨rs.nmo i a ha, fun j hj z => hj (rs.inj j i a z ha)⟩) (by
        rw [setO_id ha]
        cases k with
        | sh => exact absurd rfl hk
        | ow => exact ⟨a, rfl, e2, ho⟩
        | ln => exact ⟨a, rfl, hl rfl, e2, ho⟩)
    rw [setO_id ha] at r
    exact r
  · refine ⟨fun u x e n => ⟨⟨x, by rw [upd_ne (fun z => n i (by rw [z]; exact ha))]; exact e, .refl⟩, n⟩, fun u x z e => by rw [upd_ne (nM u z)]; exact e, fun u x e => ?_, by simp⟩
    by_cases hu : u = a
    · subst hu; exact ⟨o, upd_same⟩
    · exact ⟨x, by rw [upd_ne hu]; exact e⟩
theorem seqIx {n : Nat} {i : Int} {j : Nat} (h : ixN n i = some j) : seqIndex? i n = some j := by
  unfold ixN at h
  unfold seqIndex?
  split at h
  · rename_i h0
    split at h
    · rename_i h1
      cases h
      have : ¬ i < 0 := by omega
      simp only [this, if_false, h0, h1, decide_true, Bool.and_true, if_true]
    · cases h
  · rename_i h0
    split at h
    · rename_i h1
      cases h
      have h2 : i < 0 := by omega
      have h3 : 0 ≤ i + (n : Int) := by omega
      simp only [h2, if_true, h3, h2, decide_true, Bool.true_and]
      have h4 : i + (n : Int) < n := by omega
      simp [h4, Int.add_comm]
    · cases h
theorem RepL.dropLast {K : PySem.W.Frag} {w : World} {N : AP1} {H : Hp} {l : List Val} {xs : List V} (r : RepL K w N H l xs) : RepL K w N H l.dropLast xs.dropLast := by
  rw [List.dropLast_eq_take, List.dropLast_eq_take, r.length]; exact r.take _
theorem RepL.erase {K : PySem.W.Frag} {w : World} {N : AP1} {H : Hp} : ∀ (i : Nat) {l : List Val} {xs : List V}, RepL K w N H l xs → RepL K w N H (l.eraseIdx i) (xs.eraseIdx i) := by
  intro i
  induction i with
  | zero =>
    intro l xs r
    cases l with
    | nil => simp only [RepL] at r; subst r; exact RepL.nil
    | cons v l => simp only [RepL] at r; obtain ⟨x, s, rfl, a, b⟩ := r; exact b
  | succ n ih =>
    intro l xs r
    cases l with
    | nil => simp only [RepL] at r; subst r; exact RepL.nil
    | cons v l => simp only [RepL] at r; obtain ⟨x, s, rfl, a, b⟩ := r; exact RepL.cons a (ih b)
theorem rep_off {Mo : AP1} {own : Ow} {H : Hp} {i : Nat} {a : Addr} {o : HO} (ha : own i = some a) : Kp (NN Mo own) H (NN Mo own) (upd H a o) := fun b u e n => ⟨⟨u, by rw [upd_ne (fun z => n (.inr ⟨i, by rw [z]; exact ha⟩))]; exact e, .refl⟩, n⟩
/-- xs.pop(), xs.pop(i) -/
theorem s_pop0 {ap : Pos} (hv : PE X (.Name x p) (tVar i)) (hline : (ap.endLine == pos.line) = true) : PE X (.Call (.Attribute (.Name x p) "pop" ap) [] [] pos) (tI X.K X.w cl (.popv i .nil)) := by
  refine (pe_bm0 PySem.F.plainAttrs_list PySem.F.slot_list_pop PySem.F.type_list_pop (r := rPop) mt_pop hv (base_ok rfl) hline).weak ?_
  rintro σ H Q ⟨Mo, L, own, env, r, env', rs, e, q⟩
  simp only [ev, evs] at e
  split at e
  · rename_i hh
    obtain ⟨l, k, hl⟩ := hasL_some hh
    rw [hl] at e
    obtain ⟨y, ey, sv⟩ := rs.slotV hl
    refine ⟨y, ey, sv.isL, ?_⟩
    cases k with
    | sh => simp at e
    | ow =>
      simp only [vals, List.map_nil, popV] at e
      cases hg : l.getLast? with
      | none => rw [hg] at e; simp at e
      | some v =>
        rw [hg] at e
        simp only [Option.some.injEq, Prod.mk.injEq] at e
        obtain ⟨rfl, rfl⟩ := e
        obtain ⟨a, oa, ea, ⟨xs, hx, z, rl⟩, _⟩ := rs.ownAt hl (by simp)
        rw [ey] at ea; cases ea
        have hge : l[l.length - 1]? = some v := by rw [← List.getLast?_eq_getElem?]; exact hg
        obtain ⟨u, hu, ru⟩ := rl.get hge
        refine ⟨a, xs, u, rfl, rfl, hx, by rw [rl.length]; exact hu, q _ _ ?_⟩
        obtain ⟨rs', kp⟩ := rs.store (o := .lst xs.dropLast) (v' := .lst l.dropLast) hl (by simp) oa ⟨_, upd_same, by rw [List.length_dropLast]; omega, rl.dropLast.kp (rep_off oa)⟩
        exact .plain ⟨by rw [ad_nil]; exact rs', kp, by simp, fun _ _ z => z⟩ (ru.kp (rep_off oa))
    | ln =>
      simp only [vals, List.map_nil, popV] at e
      cases hg : l.getLast? with
      | none => rw [hg] at e; simp at e
      | some v =>
        rw [hg] at e
        simp only [Option.some.injEq, Prod.mk.injEq] at e
        obtain ⟨rfl, rfl⟩ := e
        obtain ⟨a, oa, ea, ⟨xs, hx, z, rl⟩, _⟩ := rs.ownAt hl (by simp)
        rw [ey] at ea; cases ea
        have hge : l[l.length - 1]? = some v := by rw [← List.getLast?_eq_getElem?]; exact hg
        obtain ⟨u, hu, ru⟩ := rl.get hge
        refine ⟨a, xs, u, rfl, rfl, hx, by rw [rl.length]; exact hu, q _ _ ?_⟩
        obtain ⟨rs', kp⟩ := rs.store (o := .lst xs.dropLast) (v' := .lst l.dropLast) hl (by simp) oa ⟨_, upd_same, by rw [List.length_dropLast]; omega, rl.dropLast.kp (rep_off oa)⟩
        exact .plain ⟨by rw [ad_nil]; exact rs', kp, by simp, fun _ _ z => z⟩ (ru.kp (rep_off oa))
  · cases e
theorem s_pop1 {ap : Pos} (hv : PE X (.Name x p) (tVar i)) (ha : PE X a (tI X.K X.w cl ia)) (hline : (ap.endLine == pos.line) = true) (hp : plainA [a] = true) : PE X (.Call (.Attribute (.Name x p) "pop" ap) [a] [] pos) (tI X.K X.w cl (.popv i (.cons ia .nil))) := by
  obtain ⟨n1, n2⟩ := plainA_cons (env := X.env) hp
  refine (pe_bm PySem.F.plainAttrs_list PySem.F.slot_list_pop PySem.F.type_list_pop (r := rPopAt) mt_popAt hv (pa_cons ha pa_nil n1) (base_ok rfl) (few_ok hp (by simp)) hline n1 (plainA_any n2)).weak ?_
  rintro σ H Q ⟨Mo, L, own, env, r, env', rs, e, q⟩
  simp only [ev, evs] at e
  split at e
  · rename_i hh
    obtain ⟨l0, k0, hl0⟩ := hasL_some hh
    obtain ⟨y, ey, sv⟩ := rs.slotV hl0
    refine ⟨y, ey, sv.isL, ?_⟩
    split at e
    · rename_i l2 env2 e2
      split at e2
      · rename_i t env3 e3
        cases e2
        refine ⟨Mo, L, own, env, t, env2, rs, e3, fun x1 H1 pp => ?_⟩
        obtain ⟨own1, m, h⟩ := pp.mid
        have rs1 := m.rs0
        split at e
        · cases e
        · rename_i v k hk' hl
          split at e
          · rename_i r1 v' e4
            cases e
            obtain ⟨a, oa, ea, ow, _⟩ := rs1.ownAt hl (fun z => hk' z)
            rw [ey] at ea; cases ea
            unfold popV at e4
            split at e4
            · rename_i h0; simp [vals] at h0
            · rename_i l i' h0
              simp only [vals, List.map_cons, List.map_nil, List.cons.injEq, and_true] at h0
              rw [h0] at h
              have := h.int; subst this
              obtain ⟨xs, hx, z, rl⟩ := ow
              cases hj : ixN l.length i' with
              | none => rw [hj] at e4; cases e4
              | some j =>
                rw [hj] at e4
                simp only at e4
                cases hg : l[j]? with
                | none => rw [hg] at e4; cases e4
                | some v0 =>
                  rw [hg] at e4
                  cases e4
                  obtain ⟨u, hu, ru⟩ := rl.get hg
                  have hlim : l.length ≤ 16777216 := by rw [← sizeL]; exact z
                  have hb : -(2 ^ 63) ≤ i' ∧ i' < 2 ^ 63 := by
                    have h63 : (2 : Int) ^ 63 = 9223372036854775808 := by decide
                    rw [h63]
                    unfold ixN at hj
                    split at hj
                    · split at hj
                      · omega
                      · cases hj
                    · split at hj
                      · omega
                      · cases hj
                  refine ⟨a, xs, i', j, u, rfl, rfl, hx, hb.1, hb.2, by rw [rl.length]; exact seqIx hj, hu, q _ _ (.seq m ?_)⟩
                  obtain ⟨rs', kp⟩ := rs1.store (o := .lst (xs.eraseIdx j)) (v' := .lst (l.eraseIdx j)) hl (fun z => hk' z) oa ⟨_, upd_same, by have := len_erase l j; omega, (rl.erase j).kp (rep_off oa)⟩
                  exact .plain ⟨by rw [ad_nil]; exact rs', kp, by simp, fun _ _ z => z⟩ (ru.kp (rep_off oa))
            · cases e4
          · cases e
        · cases e
      · cases e2
    · cases e
  · cases e
/-- xs.count(k), xs.index(k) -/
theorem s_count {ap : Pos} (hu : X.A.units + 64 < cLine) (ha : PE X a (tI X.K X.w cl ia)) (hb : PE X b (tI X.K X.w cl ib)) (hbo : baseOk a = true) (hline : (ap.endLine == pos.line) = true) (hp : plainA [b] = true) :
    PE X (.Call (.Attribute a "count" ap) [b] [] pos) (tI X.K X.w cl (.mcall .count ia (.cons ib .nil))) := by
  refine ⟨fun pins s σ H Q I h => ?_⟩
  obtain ⟨Mo, L, own, env, r, env', rs, e, q⟩ := h
  simp only [ev, evs, mcallV, mk] at e
  split at e
  · split at e <;> cases e
  · cases e
theorem s_index {ap : Pos} (hu : X.A.units + 64 < cLine) (ha : PE X a (tI X.K X.w cl ia)) (hb : PE X b (tI X.K X.w cl ib)) (hbo : baseOk a = true) (hline : (ap.endLine == pos.line) = true) (hp : plainA [b] = true) :
    PE X (.Call (.Attribute a "index" ap) [b] [] pos) (tI X.K X.w cl (.mcall .index ia (.cons ib .nil))) := by
  obtain ⟨n1, n2⟩ := plainA_cons (env := X.env) hp
  refine (pe_bm PySem.F.plainAttrs_list PySem.F.slot_list_index PySem.F.type_list_index (r := rIndex X.K) mt_index ha (pa_cons hb pa_nil n1) (base_ok hbo) (few_ok hp (by simp)) hline n1 (plainA_any n2)).weak ?_
  rintro σ H Q ⟨Mo, L, own, env, r, env', rs, e, q⟩
  simp only [ev, evs] at e
  split at e
  · rename_i v env1 e1
    refine ⟨Mo, L, own, env, v, env1, rs, e1, fun x1 H1 pp => ?_⟩
    obtain ⟨own1, m, h⟩ := pp.mid
    split at e
    · rename_i l2 env2 e2
      split at e2
      · rename_i u env3 e3
        cases e2
        obtain ⟨v, f⟩ := v
        simp only [vals, List.map_cons, List.map_nil, mcallV, mk] at e
        split at e
        · rename_i r' er
          cases e
          unfold mIndex at er
          split at er
          · rename_i l y h0
            simp only [List.cons.injEq, and_true] at h0
            subst h0
            split at er
            · rename_i hf
              simp only [Bool.and_eq_true] at hf
              split at er
              · rename_i j hj
                cases er
                obtain ⟨t, xs, rfl, ht, nt, z, rl⟩ := h.lst
                refine ⟨Or.inl ⟨rfl, _, SqL.of ht⟩, Mo, L, own1, env1, u, _, m.rs0, e3, fun x2 H2 pp2 => ?_⟩
                obtain ⟨own2, m2, h2⟩ := pp2.mid
                obtain ⟨t', xs', ee, ht', nt', z', rl'⟩ := (m2.val (show Rep X.K X.w (NN Mo own1) H1 (.lst l) (.ref t) by simp only [Rep]; exact ⟨t, xs, rfl, ht, nt, z, rl⟩)).lst
                cases ee
                rw [List.findIdx?_eq_some_iff_getElem] at hj
                obtain ⟨hjl, hj1, hj2⟩ := hj
                obtain ⟨u1, hu1, ru1⟩ := rl'.get (List.getElem?_eq_getElem hjl)
                refine ⟨t, xs', x2, j, u1, rfl, rfl, SqL.of ht', flat_V hf.2 h2, flat_all hf.1 rl', hu1, ?_, fun m' z1 hm hz1 => ?_, q _ _ (.plain (m.two m2) rep_int)⟩
                · rw [flat_eq (List.all_eq_true.mp hf.1 _ (List.getElem_mem hjl)) hf.2 ru1 h2]; exact hj1
                · have hml : m' < l.length := by omega
                  obtain ⟨u2, hu2, ru2⟩ := rl'.get (List.getElem?_eq_getElem hml)
                  rw [hz1] at hu2; cases hu2
                  rw [flat_eq (List.all_eq_true.mp hf.1 _ (List.getElem_mem hml)) hf.2 ru2 h2]
                  simpa using hj2 m' hm
              · cases er
            · cases er
          · cases er
        · cases e
      · cases e2
    · cases e
  · cases e
/-- len of a slot's thing -/
theorem s_lenv {p1 : Pos} (hg : Gl X "len") (hm : X.mg "len" = none) (hv : PE X (.Name x p1) (tVar i)) : PE X (.Call (.Name "len" p) [.Name x p1] [] pos) (tI X.K X.w cl (.lenv i)) := by
  refine (pe_callB (r := fun xs H Q => ∃ N v y r, xs = [y] ∧ SlotV X.K X.w N H v y ∧ bLen [v] = some r ∧ ∀ z, Rep X.K X.w N H r.1 z → Q z H) ?_ hg hm (by rfl) (pa_cons hv pa_nil rfl) (by decide) (by decide) rfl rfl).weak ?_
  · rintro pins s σ H xs us Q I rv ⟨N, v, y, r, rfl, sv, e, q⟩
    exact len_ok I sv rv e q
  · rintro σ H Q ⟨Mo, L, own, env, r, env', rs, e, q⟩
    simp only [ev] at e
    split at e
    · rename_i v k hs
      obtain ⟨y, ey, sv⟩ := rs.slotV hs
      unfold mk at e
      split at e
      · rename_i r' er
        cases e
        have key : r.2 = false := by
          unfold bLen iR at er
          split at er
          · cases er; rfl
          · cases er; rfl
          · cases er; rfl
          · cases er; rfl
          · split at er
            · cases er; rfl
            · cases er
          · cases er
        refine ⟨y, ey, NN Mo own, v, y, r, rfl, sv, er, fun z hz => q _ _ (DP.post rs (.inl ⟨rfl, key, hz⟩))⟩
      · cases e
    · cases e
/-! ### int.bit_length -/
theorem s_bits {ap : Pos} (ha : PE X a (tI X.K X.w cl ia)) (hb : baseOk a = true) (hline : (ap.endLine == pos.line) = true) : PE X (.Call (.Attribute a "bit_length" ap) [] [] pos) (tI X.K X.w cl (.mcall .bitlen ia .nil)) := by
  refine (pe_bits ha (base_ok hb) hline).weak ?_
  rintro σ H Q ⟨Mo, L, own, env, r, env', rs, e, q⟩
  simp only [ev, evs] at e
  split at e
  · rename_i v env1 e1
    refine ⟨Mo, L, own, env, v, env1, rs, e1, fun x1 H1 pp => ?_⟩
    obtain ⟨own1, m, h⟩ := pp.mid
    obtain ⟨v, f⟩ := v
    simp only [vals, List.map_nil, mcallV, mk] at e
    cases v with
    | int i' =>
      simp only [mBits] at e
      split at e
      · rename_i r' er
        split at er
        · rename_i h0
          cases er
          cases e
          have := h.int; subst this
          refine ⟨i', rfl, ?_⟩
          rw [bits_ok h0]
          exact q _ _ (.plain m rep_int)
        · cases er
      · cases e
    | _ => simp [mBits] at e
  · cases e
end
end Q

end
section
set_option Elab.async false
set_option linter.all false
set_option maxRecDepth 100000
/-! Q: dict.get, dict displays, or of values, chains. -/
namespace Q
open PySem PySem.Spec PyProof.Rows L2
section
variable {K : PySem.W.Frag} {w : World} {N : AP1} {H : Hp}
theorem hasK_any {ys : List (Key × V)} {k : Key} : hasK (ys.map (·.1)) k = ys.any fun kv => decide (kv.1 = k) := by
  unfold hasK; rw [List.any_map]; rfl
theorem replK_keys : ∀ (ys : List (Key × V)) (k : Key) (y : V), (ys.map fun kv => if kv.1 = k then (kv.1, y) else kv).map (·.1) = ys.map (·.1)
  | [], _, _ => rfl
  | p :: ys, k, y => by
    simp only [List.map_cons, replK_keys ys k y]
    split <;> rfl
theorem replK_rep {v : Val} {y : V} (hv : Rep K w N H v y) : ∀ (ys : List (Key × V)) (vs : List Val) (k : Key), RepL K w N H vs (ys.map (·.2)) → RepL K w N H (replK (ys.map (·.1)) vs k v) ((ys.map fun kv => if kv.1 = k then (kv.1, y) else kv).map (·.2))
  | [], vs, k, h => by
    have : replK (([] : List (Key × V)).map (·.1)) vs k v = [] := by cases vs <;> rfl
    rw [this]; exact RepL.nil
  | p :: ys, [], k, h => by simp [RepL] at h
  | p :: ys, u :: vs, k, h => by
    simp only [List.map_cons, RepL] at h
    obtain ⟨x, r, e, a, b⟩ := h
    cases e
    simp only [List.map_cons, replK]
    refine RepL.cons ?_ (replK_rep hv ys vs k b)
    split
    · exact hv
    · exact a
theorem putK_rep {ks : List Key} {vs : List Val} {ys : List (Key × V)} {k : Key} {v : Val} {y : V} (e : ys.map (·.1) = ks) (r : RepL K w N H vs (ys.map (·.2))) (hv : Rep K w N H v y) :
    (L2.putK ys k y).map (·.1) = (Q.putK ks vs k v).1 ∧ RepL K w N H (Q.putK ks vs k v).2 ((L2.putK ys k y).map (·.2)) := by
  subst e
  unfold L2.putK Q.putK
  rw [hasK_any]
  split
  · exact ⟨replK_keys ys k y, replK_rep hv ys vs k r⟩
  · simp only [List.map_append, List.map_cons, List.map_nil]
    exact ⟨trivial, r.append (RepL.cons hv RepL.nil)⟩
end
section
variable {X : Cx} {cl : Cl} {a b c d e : Expr} {ia ib ic id : E} {pos p p1 p2 p3 : Pos} {es : List Expr} {x y z : Str} {i : Nat}
theorem valV_look {K : PySem.W.Frag} {w : World} {N : AP1} {H : Hp} {ks : List Key} {vs : List Val} {ys : List (Key × V)} {k : Key} (e : ys.map (·.1) = ks) (r : RepL K w N H vs (ys.map (·.2))) {u : Val} {q : V} (hu : Rep K w N H u q) :
    Rep K w N H ((look ks vs k).getD u) ((valV ys k).getD q) := by
  subst e
  induction ys generalizing vs with
  | nil => cases vs <;> exact hu
  | cons p ys ih =>
    cases vs with
    | nil => simp [RepL] at r
    | cons v vs =>
      simp only [List.map_cons, RepL] at r
      obtain ⟨x, s, e, a, b⟩ := r
      cases e
      simp only [List.map_cons, look]
      by_cases hk : p.1 = k
      · rw [if_pos hk, valV_pos hk]; exact a
      · rw [if_neg hk, valV_neg hk]; exact ih b
theorem m1_ok {ap : Pos} {m : Str} (hb : baseOk a = true) (hline : (ap.endLine == pos.line) = true) (hp : plainA [e] = true) : M1 X a m ap e pos := by
  obtain ⟨n1, n2⟩ := plainA_cons (env := X.env) hp
  exact ⟨base_ok hb, few_ok hp (by simp), hline, by rw [n1]; rfl⟩
theorem m2_ok {ap : Pos} {m : Str} (hb : baseOk a = true) (hline : (ap.endLine == pos.line) = true) (hp : plainA [e, d] = true) : M2 X a m ap e d pos := by
  obtain ⟨n1, n2⟩ := plainA_cons (env := X.env) hp
  obtain ⟨n3, n4⟩ := plainA_cons (env := X.env) n2
  exact ⟨base_ok hb, few_ok hp (by simp), hline, by rw [n1, n3]; rfl⟩
theorem SlotV.isD {N : AP1} {H : Hp} {ks : List Key} {vs : List Val} {x : V} (s : SlotV X.K X.w N H (.dict ks vs) x) : ∃ a, x = .ref a ∧ IsD H a := by
  obtain ⟨a, ys, rfl, ha, ey, rl⟩ := s.dict
  exact ⟨a, rfl, .inl ⟨_, ha⟩⟩
/-- d.get(k) of a slot's dict -/
theorem s_getv1 {ap : Pos} (hu : X.A.units + 64 < cLine) (hv : PE X (.Name x p) (tVar i)) (ha : PE X a (tI X.K X.w cl ia)) (hline : (ap.endLine == pos.line) = true) (hp : plainA [a] = true) :
    PE X (.Call (.Attribute (.Name x p) "get" ap) [a] [] pos) (tI X.K X.w cl (.getv i (.cons ia .nil))) := by
  refine (pe_dget1 (by omega) hv ha (m1_ok rfl hline hp)).weak ?_
  rintro σ H Q ⟨Mo, L, own, env, r, env', rs, e, q⟩
  simp only [ev, evs] at e
  split at e
  · rename_i hh
    obtain ⟨ks, vs, k, hl⟩ := hasD_some hh
    obtain ⟨y, ey, sv⟩ := rs.slotV hl
    obtain ⟨t, rfl, isd⟩ := sv.isD
    refine ⟨_, ey, t, rfl, isd, ?_⟩
    split at e
    · rename_i l2 env2 e2
      split at e2
      · rename_i u env3 e3
        cases e2
        refine ⟨Mo, L, own, env, u, _, rs, e3, fun x1 H1 pp => ?_⟩
        obtain ⟨own1, m, h⟩ := pp.mid
        split at e
        · rename_i v k2 hg
          obtain ⟨y', ey', sv'⟩ := m.rs0.slotV hg
          rw [ey] at ey'; cases ey'
          simp only [vals, List.map_cons, List.map_nil, mk] at e
          split at e
          · rename_i r' er
            cases e
            unfold mGet at er
            split at er
            · rename_i h0
              simp only [List.cons.injEq, and_true] at h0
              subst h0
              split at er
              · rename_i kk hk
                cases er
                obtain ⟨t', ys, e4, hd, ey2, rl⟩ := sv'.dict
                cases e4
                exact ⟨valV ys kk, .inl ⟨ys, kk, hd, asKey_kV hk h, rfl⟩, q _ _ (.plain m (valV_look ey2 rl (by simp [Rep])))⟩
              · cases er
            · rename_i h0; simp at h0
            · cases er
          · cases e
        · cases e
      · cases e2
    · cases e
  · cases e
theorem s_getv2 {ap : Pos} (hu : X.A.units + 64 < cLine) (hv : PE X (.Name x p) (tVar i)) (ha : PE X a (tI X.K X.w cl ia)) (hb : PE X b (tI X.K X.w cl ib)) (hline : (ap.endLine == pos.line) = true) (hp : plainA [a, b] = true) :
    PE X (.Call (.Attribute (.Name x p) "get" ap) [a, b] [] pos) (tI X.K X.w cl (.getv i (.cons ia (.cons ib .nil)))) := by
  refine (pe_dget2 (by omega) hv ha hb (m2_ok rfl hline hp)).weak ?_
  rintro σ H Q ⟨Mo, L, own, env, r, env', rs, e, q⟩
  simp only [ev, evs] at e
  split at e
  · rename_i hh
    obtain ⟨ks, vs, k, hl⟩ := hasD_some hh
    obtain ⟨y, ey, sv⟩ := rs.slotV hl
    obtain ⟨t, rfl, isd⟩ := sv.isD
    refine ⟨_, ey, t, rfl, isd, ?_⟩
    split at e
    · rename_i l2 env2 e2
      split at e2
      · rename_i u env3 e3
        split at e2
        · rename_i l3 env4 e4
          cases e2
          split at e4
          · rename_i u2 env5 e5
            cases e4
            refine ⟨Mo, L, own, env, u, _, rs, e3, fun x1 H1 pp => ?_⟩
            obtain ⟨own1, m, h⟩ := pp.mid
            refine ⟨Mo, L, own1, _, u2, _, m.rs0, e5, fun x2 H2 pp2 => ?_⟩
            obtain ⟨own2, m2, h2⟩ := pp2.mid
            split at e
            · rename_i v k2 hg
              obtain ⟨y', ey', sv'⟩ := m2.rs0.slotV hg
              rw [ey] at ey'; cases ey'
              simp only [vals, List.map_cons, List.map_nil, mk] at e
              split at e
              · rename_i r' er
                cases e
                unfold mGet at er
                split at er
                · rename_i h0; simp at h0
                · rename_i h0
                  simp only [List.cons.injEq, and_true] at h0
                  obtain ⟨h0, h1⟩ := h0
                  subst h0 h1
                  split at er
                  · rename_i kk hk
                    cases er
                    obtain ⟨t', ys, e4, hd, ey2, rl⟩ := sv'.dict
                    cases e4
                    exact ⟨valV ys kk, .inl ⟨ys, kk, hd, asKey_kV hk (m2.val h), rfl⟩, q _ _ (.plain (m.two m2) (valV_look ey2 rl h2))⟩
                  · cases er
                · cases er
              · cases e
            · cases e
          · cases e4
        · cases e2
      · cases e2
    · cases e
  · cases e
/-- d.get(k), d.get(k, x), d any expression -/
theorem s_mget1 {ap : Pos} (hu : X.A.units + 64 < cLine) (hd : PE X d (tI X.K X.w cl id)) (ha : PE X a (tI X.K X.w cl ia)) (hb : baseOk d = true) (hline : (ap.endLine == pos.line) = true) (hp : plainA [a] = true) :
    PE X (.Call (.Attribute d "get" ap) [a] [] pos) (tI X.K X.w cl (.mcall .get id (.cons ia .nil))) := by
  refine (pe_dget1 (by omega) hd ha (m1_ok hb hline hp)).weak ?_
  rintro σ H Q ⟨Mo, L, own, env, r, env', rs, e, q⟩
  simp only [ev, evs] at e
  split at e
  · rename_i v env1 e1
    split at e
    · rename_i l2 env2 e2
      split at e2
      · rename_i u env3 e3
        cases e2
        simp only [vals, List.map_cons, List.map_nil, mk, mcallV] at e
        split at e
        · rename_i r' er
          cases e
          unfold mGet at er
          split at er
          · rename_i h0 h1
            simp only [List.cons.injEq, and_true] at h1
            subst h1
            split at er
            · rename_i kk hk
              cases er
              refine ⟨Mo, L, own, env, v, env1, rs, e1, fun x1 H1 pp => ?_⟩
              obtain ⟨own1, m, h⟩ := pp.mid
              rw [h0] at h
              obtain ⟨t, ys, rfl, hd', nd, ey, rl⟩ := h.dict
              refine ⟨t, rfl, .inl ⟨_, hd'⟩, Mo, L, own1, env1, u, _, m.rs0, e3, fun x2 H2 pp2 => ?_⟩
              obtain ⟨own2, m2, h2⟩ := pp2.mid
              have h3 := m2.val h
              obtain ⟨t', ys', e4, hd2, nd2, ey2, rl2⟩ := h3.dict
              cases e4
              exact ⟨valV ys' kk, .inl ⟨ys', kk, hd2, asKey_kV hk h2, rfl⟩, q _ _ (.plain (m.two m2) (valV_look ey2 rl2 (by simp [Rep])))⟩
            · cases er
          · rename_i h1; simp at h1
          · cases er
        · cases e
      · cases e2
    · cases e
  · cases e
theorem s_mget2 {ap : Pos} (hu : X.A.units + 64 < cLine) (hd : PE X d (tI X.K X.w cl id)) (ha : PE X a (tI X.K X.w cl ia)) (hb : PE X b (tI X.K X.w cl ib)) (hbo : baseOk d = true) (hline : (ap.endLine == pos.line) = true) (hp : plainA [a, b] = true) :
    PE X (.Call (.Attribute d "get" ap) [a, b] [] pos) (tI X.K X.w cl (.mcall .get id (.cons ia (.cons ib .nil)))) := by
  refine (pe_dget2 (by omega) hd ha hb (m2_ok hbo hline hp)).weak ?_
  rintro σ H Q ⟨Mo, L, own, env, r, env', rs, e, q⟩
  simp only [ev, evs] at e
  split at e
  · rename_i v env1 e1
    split at e
    · rename_i l2 env2 e2
      split at e2
      · rename_i u env3 e3
        split at e2
        · rename_i l3 env4 e4
          cases e2
          split at e4
          · rename_i u2 env5 e5
            cases e4
            simp only [vals, List.map_cons, List.map_nil, mk, mcallV] at e
            split at e
            · rename_i r' er
              cases e
              unfold mGet at er
              split at er
              · rename_i h1; simp at h1
              · rename_i h0 h1
                simp only [List.cons.injEq, and_true] at h1
                obtain ⟨h1, h2⟩ := h1
                subst h1 h2
                split at er
                · rename_i kk hk
                  cases er
                  refine ⟨Mo, L, own, env, v, env1, rs, e1, fun x1 H1 pp => ?_⟩
                  obtain ⟨own1, m, h⟩ := pp.mid
                  rw [h0] at h
                  obtain ⟨t, ys, rfl, hd', nd, ey, rl⟩ := h.dict
                  refine ⟨t, rfl, .inl ⟨_, hd'⟩, Mo, L, own1, env1, u, _, m.rs0, e3, fun x2 H2 pp2 => ?_⟩
                  obtain ⟨own2, m2, h2⟩ := pp2.mid
                  refine ⟨Mo, L, own2, _, u2, _, m2.rs0, e5, fun x3 H3 pp3 => ?_⟩
                  obtain ⟨own3, m3, h3⟩ := pp3.mid
                  have h4 := m3.val (m2.val h)
                  obtain ⟨t', ys', e4, hd2, nd2, ey2, rl2⟩ := h4.dict
                  cases e4
                  exact ⟨valV ys' kk, .inl ⟨ys', kk, hd2, asKey_kV hk (m3.val h2), rfl⟩, q _ _ (.plain ((m.two m2).two m3) (valV_look ey2 rl2 h3))⟩
                · cases er
              · cases er
            · cases e
          · cases e4
        · cases e2
      · cases e2
    · cases e
  · cases e
/-! ### a op b op c -/
theorem s_chainR {o o' : Cm} {Q : V → Hp → Prop} {σ : L2.St} {H : Hp} (h : tI X.K X.w cl (.chain o o' ia ib ic) σ H Q) :
    tChain (rBin X.K X.w fun x y => bR (cmpv o x y)) (rBin X.K X.w fun x y => bR (cmpv o' x y)) (tI X.K X.w cl ia) (tI X.K X.w cl ib) (tI X.K X.w cl ic) σ H Q := by
  obtain ⟨Mo, L, own, env, r, env', rs, e, q⟩ := h
  simp only [ev] at e
  split at e
  · rename_i v1 env1 e1
    split at e
    · rename_i v2 env2 e2
      refine ⟨Mo, L, own, env, v1, env1, rs, e1, fun x1 H1 pp => ?_⟩
      obtain ⟨own1, m, h1⟩ := pp.mid
      refine ⟨Mo, L, own1, env1, v2, env2, m.rs0, e2, fun x2 H2 pp2 => ?_⟩
      obtain ⟨own2, m2, h2⟩ := pp2.mid
      have mm := m.two m2
      split at e
      · rename_i hc
        split at e
        · rename_i v3 env3 e3
          refine ⟨NN Mo own2, v1.1, v2.1, (.bool true, false), fun a z => mm.rs0.nn_some z, m2.val h1, h2, by simp only [hc]; rfl, fun z H' d => ?_⟩
          have hz : z = .bl true ∧ H' = H2 := by
            rcases d with ⟨rfl, _, h⟩ | ⟨pp, oo, hp, rfl, rfl, h⟩
            · exact ⟨h.bool, rfl⟩
            · simp [Rep] at h
          obtain ⟨rfl, rfl⟩ := hz
          refine ⟨true, rfl, ?_⟩
          simp only [if_true]
          refine ⟨Mo, L, own2, env2, v3, env3, mm.rs0, e3, fun x3 H3 pp3 => ?_⟩
          obtain ⟨own3, m3, h3⟩ := pp3.mid
          unfold mkB mk at e
          split at e
          · rename_i r' er
            cases e
            exact ⟨NN Mo own3, v2.1, v3.1, r, fun a z => m3.rs0.nn_some z, m3.val h2, h3, er, fun z H' d => q z H' (.seq (mm.two m3) (d.post m3.rs0))⟩
          · cases e
        · cases e
      · rename_i hc
        cases e
        refine ⟨NN Mo own2, v1.1, v2.1, (.bool false, false), fun a z => mm.rs0.nn_some z, m2.val h1, h2, by simp only [hc]; rfl, fun z H' d => ?_⟩
        have hz : z = .bl false ∧ H' = H2 := by
          rcases d with ⟨rfl, _, h⟩ | ⟨pp, oo, hp, rfl, rfl, h⟩
          · exact ⟨h.bool, rfl⟩
          · simp [Rep] at h
        obtain ⟨rfl, rfl⟩ := hz
        refine ⟨false, rfl, ?_⟩
        simp only [Bool.false_eq_true, if_false]
        exact q _ _ (.plain mm rep_bool)
      · cases e
    · cases e
  · cases e
/-! ### xs or ys -/
theorem s_orL {rest : List Expr} (ha : PE X a (tI X.K X.w cl ia)) (hb : PE X (.BoolOp .Or (b :: rest) pos) (tI X.K X.w cl ib)) : PE X (.BoolOp .Or (a :: b :: rest) pos) (tI X.K X.w cl (.orV ia ib)) := by
  refine (pe_orT ha hb).weak ?_
  rintro σ H Q ⟨Mo, L, own, env, r, env', rs, e, q⟩
  simp only [ev] at e
  split at e
  · rename_i l f env1 e1
    refine ⟨Mo, L, own, env, _, env1, rs, e1, fun x1 H1 pp => ?_⟩
    obtain ⟨own1, m, h⟩ := pp.mid
    obtain ⟨t, xs, rfl, ht, nt, z, rl⟩ := h.lst
    refine ⟨!xs.isEmpty, .inl ⟨xs, SqL.of ht, rfl⟩, ?_⟩
    have el : xs.isEmpty = l.isEmpty := by
      have := rl.length
      cases xs <;> cases l <;> simp_all
    cases hl : l.isEmpty with
    | true =>
      rw [el, hl]
      rw [hl] at e
      simp only [Bool.not_true, Bool.false_eq_true, if_false]
      simp only [if_true] at e
      split at e
      · rename_i mm f2 env2 e2
        cases e
        exact ⟨Mo, L, own1, env1, _, env', m.rs0, e2, fun x H2 p => q x H2 (.seq m p)⟩
      · cases e
    | false =>
      rw [el, hl]
      rw [hl] at e
      simp only [Bool.not_false, if_true]
      simp only [Bool.false_eq_true, if_false, Option.some.injEq, Prod.mk.injEq] at e
      obtain ⟨rfl, rfl⟩ := e
      exact q _ _ pp
  · cases e
/-- no test -/
theorem orL_test {e : Expr} : PT X e (tTt X.K X.w cl (.orV ia ib)) := by
  refine ⟨fun pins s σ H Q I h => ?_⟩
  obtain ⟨Mo, L, own, env, r, env', rs, e, q⟩ := h
  obtain ⟨f, e⟩ := boolR_some e
  simp only [ev] at e
  split at e
  · split at e
    · split at e
      · cases e
      · cases e
    · cases e
  · cases e
/-- dict(pairs) -/
theorem dictOf_rep {K : PySem.W.Frag} {w : World} {N : AP1} {H : Hp} : ∀ (l : List Val) (xs : List V) (ks ks' : List Key) (vs vs' : List Val) (ys : List (Key × V)), RepL K w N H l xs → dictOf l ks vs = some (ks', vs') → ys.map (·.1) = ks → RepL K w N H vs (ys.map (·.2)) →
    ∃ (ps : List Addr) (kvs : List (Key × V)), xs = ps.map V.ref ∧ Paired (fun p kv => SqT K H p [kV kv.1, kv.2]) ps kvs ∧ (mergeK ys kvs).map (·.1) = ks' ∧ RepL K w N H vs' ((mergeK ys kvs).map (·.2))
  | [], xs, ks, ks', vs, vs', ys, r, e, ey, rl => by
    simp only [dictOf, Option.some.injEq, Prod.mk.injEq] at e
    obtain ⟨rfl, rfl⟩ := e
    simp only [RepL] at r
    subst r
    exact ⟨[], [], rfl, .nil, ey, rl⟩
  | v :: l, xs, ks, ks', vs, vs', ys, r, e, ey, rl => by
    unfold dictOf at e
    split at e
    · cases ‹v :: l = []›
    · rename_i k z r' hc
      cases hc
      simp only [RepL] at r
      obtain ⟨x, xr, rfl, a, b⟩ := r
      obtain ⟨t, us, rfl, ht, zz, rr⟩ := a.tup
      obtain ⟨x1, x2, rfl, r1, r2⟩ := rr.two
      split at e
      · rename_i kk hk
        have hx := asKey_kV hk r1
        subst hx
        obtain ⟨q1, q2⟩ := putK_rep (k := kk) ey rl r2
        obtain ⟨ps, kvs, h1, h2, h3, h4⟩ := dictOf_rep l xr _ ks' _ vs' (L2.putK ys kk x2) b e q1 q2
        exact ⟨t :: ps, (kk, x2) :: kvs, by rw [h1]; rfl, .cons ht.sq h2, h3, h4⟩
      · cases e
    · cases e
theorem o_dict (hc : X.calm = true) : CallR X (.type "dict") (rAr X.K X.w bDict) := by
  rintro pins s σ H xs us Q I rv ⟨N, va, r, hN, ra, e, q⟩
  unfold bDict at e
  split at e
  · split at e
    · rename_i ks vs hd
      cases e
      obtain ⟨x, rfl, rx⟩ := ra.one
      obtain ⟨a, ys, rfl, ha, na, z, rl⟩ := rx.lst
      obtain ⟨ps, kvs, h1, h2, h3, h4⟩ := dictOf_rep _ _ _ _ _ _ [] rl hd rfl RepL.nil
      subst h1
      exact call_dictP hc pins s σ H _ us Q I rv ⟨a, ps, kvs, rfl, SqL.of ha, h2, fun p hp => q _ _ (.newD hp h3 h4)⟩
    · cases e
  · cases e
/-! ### {k: v, ..} -/
inductive Prs (X : Cx) (cl : Cl) : E → List (Option Expr) → List Expr → List (TE × TE) → Prop
  | nil : Prs X cl .nil [] [] []
  | cons {k v : Expr} {ik iv t : E} {ks : List (Option Expr)} {vs : List Expr} {trs : List (TE × TE)} (hk : PE X k (tI X.K X.w cl ik)) (hv : PE X v (tI X.K X.w cl iv)) (h : Prs X cl t ks vs trs) :
      Prs X cl (.cons ik (.cons iv t)) (some k :: ks) (v :: vs) ((tI X.K X.w cl ik, tI X.K X.w cl iv) :: trs)
theorem Prs.pps (h : Prs X cl ia ks vs trs) : PPs X pos ks vs trs := by
  induction h with
  | nil => exact pps_nil
  | cons hk hv h ih => exact pps_cons hk hv ih
theorem Prs.all (h : Prs X cl ia ks vs trs) : ks.all (·.isSome) = true ∧ ks.length = vs.length := by
  induction h with
  | nil => exact ⟨rfl, rfl⟩
  | cons hk hv h ih => exact ⟨by simp [ih.1], by simp [ih.2]⟩
theorem Prs.len (h : Prs X cl ia ks vs trs) : ∀ {env env' : Env} {l : List Res}, evs cl ia env = some (l, env') → l.length = 2 * ks.length := by
  induction h with
  | nil =>
    intro env env' l e
    simp only [evs, Option.some.injEq, Prod.mk.injEq] at e
    obtain ⟨rfl, rfl⟩ := e
    rfl
  | cons hk hv h ih =>
    intro env env' l e
    simp only [evs] at e
    split at e
    · split at e
      · rename_i e2
        split at e2
        · split at e2
          · rename_i e4
            cases e2
            cases e
            have := ih e4
            simp; omega
          · cases e2
        · cases e2
      · cases e
    · cases e
def flatP : List (V × V) → List V
  | [] => []
  | (x, y) :: r => x :: y :: flatP r
theorem Prs.run (h : Prs X cl ia ks vs trs) : ∀ {Mo : AP1} {L : Option Addr} {own : Ow} {H : Hp} {σ : L2.St} {env env' : Env} {l : List Res} {Q : List (V × V) → Hp → Prop}, RS X.K X.w Mo L own H σ env → evs cl ia env = some (l, env') →
    (∀ ps H', PostA X.K X.w Mo L own H σ l env' (flatP ps) H' → Q ps H') → tPairs trs σ H Q := by
  induction h with
  | nil =>
    intro Mo L own H σ env env' l Q rs e q
    simp only [evs, Option.some.injEq, Prod.mk.injEq] at e
    obtain ⟨rfl, rfl⟩ := e
    exact q [] H ⟨own, [], .refl rs, ⟨rfl, rfl⟩, List.nodup_nil⟩
  | cons hk hv h ih =>
    intro Mo L own H σ env env' l Q rs e q
    simp only [evs] at e
    split at e
    · rename_i u env1 e1
      split at e
      · rename_i l2 env2 e2
        split at e2
        · rename_i u2 env3 e3
          split at e2
          · rename_i l3 env4 e4
            cases e2
            cases e
            refine ⟨Mo, L, own, env, u, env1, rs, e1, fun x1 H1 pp => ?_⟩
            obtain ⟨own1, A1, m, h1⟩ := pp
            refine ⟨ad Mo A1, L, own1, env1, u2, env3, m.rs, e3, fun x2 H2 pp2 => ?_⟩
            obtain ⟨own2, A2, m2, h2⟩ := pp2
            refine ih m2.rs e4 fun ps H3 p3 => ?_
            exact q _ H3 (.cons m h1 (.cons m2 h2 p3))
          · cases e2
        · cases e2
      · cases e
    · cases e
theorem disp_rep {K : PySem.W.Frag} {w : World} {N : AP1} {H : Hp} : ∀ (l : List Val) (ps : List (V × V)) (ks ks' : List Key) (vs vs' : List Val) (ys : List (Key × V)), RepL K w N H l (flatP ps) → dispOf l ks vs = some (ks', vs') → ys.map (·.1) = ks → RepL K w N H vs (ys.map (·.2)) →
    ∃ kvs : List (Key × V), ps = kvs.map (fun kv => (kV kv.1, kv.2)) ∧ kvs.length * 2 = l.length ∧ (mergeK ys kvs).map (·.1) = ks' ∧ RepL K w N H vs' ((mergeK ys kvs).map (·.2))
  | [], ps, ks, ks', vs, vs', ys, r, e, ey, rl => by
    simp only [dispOf, Option.some.injEq, Prod.mk.injEq] at e
    obtain ⟨rfl, rfl⟩ := e
    cases ps with
    | nil => exact ⟨[], rfl, rfl, ey, rl⟩
    | cons p ps => simp [RepL, flatP] at r
  | [v], ps, ks, ks', vs, vs', ys, r, e, ey, rl => by simp [dispOf] at e
  | v :: u :: l, ps, ks, ks', vs, vs', ys, r, e, ey, rl => by
    cases ps with
    | nil => simp [RepL, flatP] at r
    | cons p ps =>
      obtain ⟨x, y⟩ := p
      simp only [RepL, flatP] at r
      obtain ⟨x', r', e1, a, y', r2, e2, b, c⟩ := r
      cases e1
      cases e2
      simp only [dispOf] at e
      split at e
      · rename_i k hk
        have hx := asKey_kV hk a
        obtain ⟨q1, q2⟩ := putK_rep (k := k) ey rl b
        obtain ⟨kvs, h1, h2, h3, h4⟩ := disp_rep l ps _ ks' _ vs' (L2.putK ys k y) c e q1 q2
        exact ⟨(k, y) :: kvs, by rw [h1, hx]; rfl, by simp; omega, h3, h4⟩
      · cases e
theorem s_dict {ks : List (Option Expr)} {vs : List Expr} {trs : List (TE × TE)} (h : Prs X cl ia ks vs trs) (h0 : ks ≠ []) (h15 : ks.length ≤ 15) : PE X (.Dict ks vs pos) (tI X.K X.w cl (.dict ia)) := by
  refine (pe_disp h.pps h.all.1 h.all.2 h0 h15).weak ?_
  rintro σ H Q ⟨Mo, L, own, env, r, env', rs, e, q⟩ p hp
  simp only [ev] at e
  split at e
  · rename_i l env1 e1
    split at e
    · rename_i ks' vs' e2
      cases e
      have m0 := Mid.alloc (o := .dK []) rs hp
      refine h.run m0.rs e1 fun ps H2 pa => ?_
      obtain ⟨own2, A, m, hr, nd⟩ := pa
      have rl := m.reps hr
      have atp : H2 p = some (.dK []) := m.kp.strict p _ (.inr (by simp)) upd_same
      obtain ⟨kvs, h1, h2, h3, h4⟩ := disp_rep _ _ _ _ _ _ [] rl e2 rfl RepL.nil
      refine ⟨atp, kvs, h1, ?_, ?_⟩
      · have := h.len e1
        simp only [vals, List.length_map] at h2
        omega
      · have m1 := m0.seq m.drop
        rw [List.append_nil] at m1
        have hk : Kp (NN (ad Mo [p]) own2) H2 (NN (ad Mo [p]) own2) (upd H2 p (.dK (mergeK [] kvs))) := fun a u e n => ⟨⟨u, by rw [upd_ne (fun z => n (.inl (.inr (by simp [z]))))]; exact e, .refl⟩, n⟩
        refine q _ _ ⟨own2, [p], ⟨m1.rs.hide, m1.kp.updNew hp, m1.nm, m1.sub⟩, p, rfl, rfl, _, upd_same, h3, h4.kp hk⟩
    · cases e
  · cases e
theorem s_dict0 : PE X (.Dict [] [] pos) (tI X.K X.w cl (.dict .nil)) := by
  refine pe_dnewK.weak ?_
  rintro σ H Q ⟨Mo, L, own, env, r, env', rs, e, q⟩ p hp
  simp only [ev, evs, vals, List.map_nil, dispOf, Option.some.injEq, Prod.mk.injEq] at e
  obtain ⟨rfl, rfl⟩ := e
  exact q _ _ (DP.post rs (.newD hp rfl RepL.nil))
end
end Q

end
section
set_option Elab.async false
set_option linter.all false
set_option maxRecDepth 100000
/-! Q: the context's facts; calls of defs. -/
namespace Q
open PySem PySem.Spec PyProof.Rows L2
/-- what a call leaves -/
structure PF (K : PySem.W.Frag) (w : World) (N : AP1) (lt : Option Addr) (H : Hp) (r : Res) (v' : Val) (x : V) (H' : Hp) (A : List Addr) : Prop where
  kept : ∀ u o, H u = some o → some u ≠ lt → ∃ o', H' u = some o' ∧ Le o o'
  strict : ∀ u o, N u → some u ≠ lt → H u = some o → H' u = some o
  there : ∀ u o, H u = some o → ∃ o', H' u = some o'
  new : ∀ a ∈ A, H a = none
  res : RR K w (ad N A) H' r x A
  back : ∀ a, lt = some a → Own K w (ad N A) H' a v'
/-- the arguments of a call -/
def ArgsOk (K : PySem.W.Frag) (w : World) (N : AP1) (H : Hp) (io : Bool) (lt : Option Addr) (args : List Val) (vs : List V) : Prop :=
  if io = true then ∃ a v rest xs, lt = some a ∧ N a ∧ vs = .ref a :: xs ∧ args = v :: rest ∧ Own K w N H a v ∧ RepL K w N H rest xs
  else lt = none ∧ RepL K w N H args vs
/-- what a def promises -/
def spF (K : PySem.W.Frag) (w : World) (cl : Cl) (f : Nat) (io : Bool) (np : Nat) : Sp := fun vs H Q _ => vs.length = np ∧ ∃ N lt args r v', (∀ a, N a → ∃ o, H a = some o) ∧ ArgsOk K w N H io lt args vs ∧ cl f io args = some (r, v') ∧
  ∀ x H' A, PF K w N lt H r v' x H' A → Q x H'
def CallOk (X : Cx) (cl : Cl) (x : Str) (f : Nat) (io : Bool) : Prop := ∃ (a : Addr) (fd : FuncData) (ps : List Str) (k np : Nat),
  FnOk X.prog X.w X.K X.mg X.base CX0 k a fd ps (spF X.K X.w cl f io np) ∧ Room k X.A ∧ X.mg x = some (.ref a) ∧ PySem.W.keepIn X.K (.ref a) = true ∧ Binds X.K fd ps [] ∧ (∀ args r, cl f io args = some r → args.length = np)
def bltNames : List Str := ["len", "abs", "sum", "min", "max", "all", "any", "int", "sorted", "set", "dict", "str", "list", "tuple", "range", "enumerate", "zip", "isinstance", "bool"]
structure Good (c : Ctx) (X : Cx) (cl : Cl) : Prop where
  N : X.N = c.N
  sc : X.env.scope = c.sc
  nd : X.N.Nodup
  calm : X.calm = true
  hu : X.A.units + 64 < cLine
  blt : ∀ x ∈ bltNames, X.mg x = none
  cst : ∀ x v, c.cst x = some v → ∃ u y, X.mg x = some u ∧ RelV y u ∧ ∀ N H, Rep X.K X.w N H v y
  fns : ∀ x f io, c.fn x = some (f, io) → CallOk X cl x f io
section
variable {K : PySem.W.Frag} {w : World} {N N' Mo Mo' : AP1} {L : Option Addr} {own own' own1 own2 : Ow} {H H' H1 H2 : Hp} {σ : L2.St} {env env' env1 env2 : Env} {A A1 A2 : List Addr} {r : Res} {v' : Val} {x : V}
theorem PF.kp (p : PF K w N none H r v' x H' A) : Kp N H (ad N A) H' := fun a o e n => by
  refine ⟨p.kept a o e (by simp), ?_⟩
  rintro (z | z)
  · exact n z
  · have := p.new a z; rw [e] at this; cases this
theorem RS.called (rs : RS K w Mo L own H σ env) (p : PF K w (NN Mo own) none H r v' x H' A) : Mid K w Mo L own H σ own A H' env ∧ RR K w (NN (ad Mo A) own) H' r x A := by
  have e : ad (NN Mo own) A = NN (ad Mo A) own := by
    funext a; simp only [ad, NN, eq_iff_iff]
    constructor
    · rintro ((z | z) | z)
      · exact .inl (.inl z)
      · exact .inr z
      · exact .inl (.inr z)
    · rintro ((z | z) | z)
      · exact .inl (.inl z)
      · exact .inr z
      · exact .inl (.inr z)
  have kp := p.kp
  rw [e] at kp
  have nA : ∀ a ∈ A, ∀ o, H a ≠ some o := fun a z o q => by have := p.new a z; rw [q] at this; cases this
  have thA : ∀ a ∈ A, ∃ o, H' a = some o := by
    have := p.res
    unfold RR at this
    split at this
    · rw [this.1]; simp
    · obtain ⟨a, ea, _, o⟩ := this
      intro b hb
      rw [ea] at hb
      simp at hb; subst hb
      exact o.some
  refine ⟨⟨⟨rs.len, rs.inj, fun i a e1 z => ?_, fun a z => ?_, fun i => (rs.slot i).kp kp fun a e1 u q => p.strict a u (.inr ⟨i, e1⟩) (by simp) q⟩, ⟨fun u o e1 n => ⟨p.kept u o e1 (by simp), n⟩, fun u o z e1 => p.strict u o (.inl z) (by simp) e1, p.there, fun a z => .inl (p.new a z)⟩, fun a z q => ?_, fun _ _ z => z⟩, by rw [← e]; exact p.res⟩
  · rcases z with z | z
    · exact rs.nmo i a e1 z
    · obtain ⟨o, q⟩ := rs.own_some e1; exact nA a z o q
  · rcases z with z | z
    · obtain ⟨o, q⟩ := rs.mos a z; exact p.there a o q
    · exact thA a z
  · obtain ⟨o, q2⟩ := rs.mos a q; exact nA a z o q2
/-- a call with a lent argument -/
theorem RS.calledIo (rs : RS K w Mo L own H σ env) {i : Nat} {v : Val} {k : Fl} {a : Addr} (h : eget env i = some (v, k)) (hk : k ≠ .sh) (ha : own i = some a) (p : PF K w (NN Mo own) (some a) H r v' x H' A) :
    Mid K w Mo L own H σ own A H' (eset env i (some (v', k))) ∧ RR K w (NN (ad Mo A) own) H' r x A := by
  have e : ad (NN Mo own) A = NN (ad Mo A) own := by
    funext a; simp only [ad, NN, eq_iff_iff]
    constructor
    · rintro ((z | z) | z)
      · exact .inl (.inl z)
      · exact .inr z
      · exact .inl (.inr z)
    · rintro ((z | z) | z)
      · exact .inl (.inl z)
      · exact .inr z
      · exact .inl (.inr z)
  have nA : ∀ a ∈ A, ∀ o, H a ≠ some o := fun a z o q => by have := p.new a z; rw [q] at this; cases this
  have kp : Kp (NN Mo own) H (NN (ad Mo A) own) H' := fun u o e1 n => by
    refine ⟨p.kept u o e1 (fun z => n (by cases z; exact .inr ⟨i, ha⟩)), ?_⟩
    rintro ((z | z) | z)
    · exact n (.inl z)
    · exact nA u z o e1
    · exact n (.inr z)
  have thA : ∀ a ∈ A, ∃ o, H' a = some o := by
    have := p.res
    unfold RR at this
    split at this
    · rw [this.1]; simp
    · obtain ⟨a, ea, _, o⟩ := this
      intro b hb
      rw [ea] at hb
      simp at hb; subst hb
      exact o.some
  have nMa : ∀ b, Mo b → b ≠ a := fun b z e => rs.nmo i a ha (e ▸ z)
  have nj : ∀ j b, j ≠ i → own j = some b → b ≠ a := fun j b hj e z => hj (rs.inj j i a (z ▸ e) ha)
  obtain ⟨a', e1, e2, _, hl⟩ := rs.ownAt h hk
  rw [ha] at e1; cases e1
  have hO : Own K w (NN (ad Mo A) own) H' a v' := by rw [← e]; exact p.back a rfl
  have r2 := rs.change (i := i) (s := some (v', k)) (o := some a) (Mo' := ad Mo A) (H' := H') (σ' := σ) (eget_lt h) (by rw [setO_id ha]; exact kp) (fun j b hj e u q => p.strict b u (.inr ⟨j, e⟩) (fun z => nj j b hj e (by cases z; rfl)) q) rfl (fun _ _ => rfl)
    (fun b z => by
      rcases z with z | z
      · obtain ⟨u, e⟩ := rs.mos b z; exact p.there b u e
      · exact thA b z)
    (fun j b _ e z => by
      rcases z with z | z
      · exact rs.nmo j b e z
      · obtain ⟨o, q⟩ := rs.own_some e; exact nA b z o q)
    (fun b z => by
      cases z
      refine ⟨fun z => ?_, fun j hj z => hj (rs.inj j i a z ha)⟩
      rcases z with z | z
      · exact rs.nmo i a ha z
      · obtain ⟨o, q⟩ := rs.own_some ha; exact nA a z o q) (by
      rw [setO_id ha]
      cases k with
      | sh => exact absurd rfl hk
      | ow => exact ⟨a, rfl, e2, hO⟩
      | ln => exact ⟨a, rfl, hl rfl, e2, hO⟩)
  rw [setO_id ha] at r2
  refine ⟨⟨r2, ⟨fun u o e1 n => ⟨p.kept u o e1 (fun z => n i (by cases z; exact ha)), n⟩, fun u o z e1 => p.strict u o (.inl z) (fun q => nMa u z (by cases q; rfl)) e1, p.there, fun a z => .inl (p.new a z)⟩, fun b z q => ?_, fun _ _ z => z⟩, by rw [← e]; exact p.res⟩
  obtain ⟨o, q2⟩ := rs.mos b q; exact nA b z o q2
end
section
variable {X : Cx} {cl : Cl} {a b c d e : Expr} {ia ib ic id : E} {pos p p1 p2 p3 : Pos} {es : List Expr} {x y z : Str} {i f : Nat}
theorem call_red {np : Nat} (hl : ∀ args r, cl f false args = some r → args.length = np) {σ : L2.St} {H : Hp} {Q : VK} (h : tI X.K X.w cl (.call f ia) σ H Q) : tCall (spF X.K X.w cl f false np) [] (fun _ _ _ => False) (tIs X.K X.w cl ia) σ H Q := by
  obtain ⟨Mo, L, own, env, r, env', rs, e, q⟩ := h
  simp only [ev] at e
  split at e
  · rename_i l env1 e1
    split at e
    · rename_i r1 v1 e2
      cases e
      refine ⟨Mo, L, own, env, l, env', rs, e1, fun xs H1 pp => ?_⟩
      obtain ⟨own1, m, h1⟩ := pp.mid
      rw [List.append_nil]
      refine ⟨by rw [h1.length]; exact hl _ _ e2, NN Mo own1, none, vals l, r, v1, fun a z => m.rs0.nn_some z, ⟨rfl, h1⟩, e2, fun x H' A p => ?_⟩
      obtain ⟨m2, rr⟩ := m.rs0.called p
      exact q x H' (.seq m ⟨own1, A, m2, rr⟩)
    · cases e
  · cases e
theorem s_call (hok : CallOk X cl x f false) (hg : Gl X x) (hdb : (x == ("__debug__" : Str)) = false) (ha : PA X (e :: es) (tIs X.K X.w cl ia)) (hp : plainA (e :: es) = true) : PE X (.Call (.Name x p) (e :: es) [] pos) (tI X.K X.w cl (.call f ia)) := by
  obtain ⟨a, fd, ps, k, np, F, hr, hm, hk, hb, hl⟩ := hok
  exact (pe_call F hr hg hm hk hb .nil pass0 ha hdb (plainA_cons hp).1 (plainA_any (plainA_cons (env := X.env) hp).2)).weak fun σ H Q => call_red hl
theorem s_call0 (hok : CallOk X cl x f false) (hg : Gl X x) (hdb : (x == ("__debug__" : Str)) = false) : PE X (.Call (.Name x p) [] [] pos) (tI X.K X.w cl (.call f .nil)) := by
  obtain ⟨a, fd, ps, k, np, F, hr, hm, hk, hb, hl⟩ := hok
  refine (pe_call0 F hr hg hm hk hb .nil (E := fun _ _ _ => False) pass0 hdb).weak fun σ H Q h => ?_
  obtain ⟨Mo, L, own, env, r, env', rs, e, q⟩ := h
  simp only [ev, evs] at e
  split at e
  · rename_i r1 v1 e2
    cases e
    refine ⟨hl _ _ e2, NN Mo own, none, _, r, v1, fun a z => rs.nn_some z, ⟨rfl, RepL.nil⟩, e2, fun x H' A p => ?_⟩
    obtain ⟨m2, rr⟩ := rs.called p
    exact q x H' ⟨own, A, m2, rr⟩
  · cases e
theorem s_callio (hok : CallOk X cl x f true) (hg : Gl X x) (hdb : (x == ("__debug__" : Str)) = false) (hv : PE X (.Name y p1) (tVar i)) (ha : PA X es (tIs X.K X.w cl ia)) (hp : plainA es = true) : PE X (.Call (.Name x p) (.Name y p1 :: es) [] pos) (tI X.K X.w cl (.callio f i ia)) := by
  obtain ⟨a, fd, ps, k, np, F, hr, hm, hk, hb, hl⟩ := hok
  have hp2 : plainA (.Name y p1 :: es) = true := hp
  obtain ⟨n1, n2⟩ := plainA_cons (env := X.env) hp2
  refine (pe_call F hr hg hm hk hb .nil (E := fun _ _ _ => False) pass0 (pa_cons hv ha n1) hdb n1 (plainA_any n2)).weak fun σ H Q h => ?_
  obtain ⟨Mo, L, own, env, r, env', rs, e, q⟩ := h
  simp only [ev] at e
  split at e
  · rename_i hh
    obtain ⟨y0, ey⟩ := rs.hasx hh
    refine ⟨y0, ey, ?_⟩
    split at e
    · rename_i l env1 e1
      refine ⟨Mo, L, own, env, l, env1, rs, e1, fun xs H1 pp => ?_⟩
      obtain ⟨own1, m, h1⟩ := pp.mid
      rw [List.append_nil]
      split at e
      · cases e
      · rename_i v k' hk' hs
        split at e
        · rename_i r1 v1 e2
          cases e
          obtain ⟨a', oa, ea, ow, _⟩ := m.rs0.ownAt hs (fun z => hk' z)
          rw [ey] at ea; cases ea
          have h0 := hl _ _ e2
          refine ⟨by simp only [List.length_cons] at h0 ⊢; rw [h1.length]; exact h0, NN Mo own1, some a', _, r, v1, fun a z => m.rs0.nn_some z, ⟨a', v, vals l, xs, rfl, .inr ⟨i, oa⟩, rfl, rfl, ow, h1⟩, e2, fun x H' A p => ?_⟩
          obtain ⟨m2, rr⟩ := m.rs0.calledIo hs (fun z => hk' z) oa p
          exact q x H' (.seq m ⟨own1, A, m2, rr⟩)
        · cases e
      · cases e
    · cases e
  · cases e
end
end Q

end
section
set_option Elab.async false
set_option linter.all false
set_option maxRecDepth 100000
set_option maxHeartbeats 4000000
/-! Q: what is compiled reads as it says: expressions. -/
namespace Q
open PySem PySem.Spec PyProof.Rows L2
theorem isVis_vis {sc : Scope} {x : Str} (h : isVis sc x = true) : Vis sc x := by
  unfold isVis at h
  split at h
  · exact .inl (by assumption)
  · exact .inr (.inl (by assumption))
  · exact .inr (.inr (by assumption))
  · cases h
theorem okN_dbg {x : Str} (h : okN x = true) : (x == ("__debug__" : Str)) = false ∧ (x == ("__classdict__" : Str)) = false := by
  unfold okN at h
  simpa using h
theorem isGl_gl {sc : Scope} {x : Str} (h : isGl sc x = true) : sc.names.lookup x = some .globalImplicit ∧ (x == ("__debug__" : Str)) = false := by
  unfold isGl at h
  rw [Bool.and_eq_true] at h
  refine ⟨?_, (okN_dbg h.1).1⟩
  have h2 := h.2
  split at h2
  · assumption
  · cases h2
theorem bltIs_eq {c : Ctx} {x y : Str} (h : bltIs c x y = true) : x = y ∧ c.sc.names.lookup x = some .globalImplicit := by
  unfold bltIs at h
  simp only [Bool.and_eq_true, decide_eq_true_eq] at h
  exact ⟨h.1.1.1, (isGl_gl h.1.1.2).1⟩
section
variable {c : Ctx} {X : Cx} {cl : Cl}
theorem Good.gl (g : Good c X cl) {x : Str} (h : c.sc.names.lookup x = some .globalImplicit) : Gl X x := by
  show X.env.scope.names.lookup x = some .globalImplicit
  rw [g.sc]; exact h
theorem Good.var (g : Good c X cl) {x : Str} {i : Nat} (h : slot? c x = some i) (p : Pos) : PE X (.Name x p) (tVar i) := by
  unfold slot? at h
  split at h
  · rename_i h1
    rw [Bool.and_eq_true] at h1
    obtain ⟨h2, h3⟩ := okN_dbg h1.2
    obtain ⟨_, h4⟩ := ixOf_get h
    refine pe_var (by rw [g.N]; simpa using h4) ?_ h2 h3
    rw [g.sc]
    exact isVis_vis h1.1
  · cases h
theorem Good.bl (g : Good c X cl) {x y : Str} (h : bltIs c x y = true) (hy : y ∈ bltNames) : x = y ∧ Gl X y ∧ X.mg y = none := by
  obtain ⟨h1, h2⟩ := bltIs_eq h
  subst h1
  exact ⟨rfl, g.gl h2, g.blt _ hy⟩
theorem Good.const (g : Good c X cl) {x : Str} {v : Val} (h : isGl c.sc x = true) (hv : c.cst x = some v) (p : Pos) : PE X (.Name x p) (tI X.K X.w cl (.const v)) := by
  obtain ⟨u, y, h1, h2, h3⟩ := g.cst x v hv
  obtain ⟨h4, h5⟩ := isGl_gl h
  exact s_const (pe_glob (g.gl h4) h1 h2 h5) h3
/-- not a slice, a set, a starred thing -/
theorem compE_ns : ∀ {n : Nat} {e : Expr} {ie : E}, compE c n e = some ie → (∀ lo hi st p, e ≠ .Slice lo hi st p) ∧ (∀ es k p, e ≠ .Set es k p) ∧ (∀ x p, e ≠ .Starred x p)
  | 0, e, ie, h => by simp [compE] at h
  | n + 1, e, ie, h => by
    refine ⟨?_, ?_, ?_⟩
    · rintro lo hi st p rfl; simp [compE] at h
    · rintro es k p rfl; simp [compE] at h
    · rintro x p rfl; simp [compE] at h
theorem plainIx {e : Expr} (h : ∀ lo hi st p, e ≠ .Slice lo hi st p) : PlainIx e := by
  intro o i
  unfold subscripted
  split
  · exact absurd rfl (h _ _ _ _)
  · rename_i h0; cases h0
  · rfl
theorem nomarks {op : CmpOp} {e : Expr} (h : ∀ es k p, e ≠ .Set es k p) : behindInMarks op e = false := by
  unfold behindInMarks
  split
  · exact absurd rfl (h _ _ _)
  · rfl
theorem folded {e : Expr} {env : PySem.Env} (h : ∀ es k p, e ≠ .Set es k p) (x : Value) : foldedSetIterable e env x = pure x := by
  unfold foldedSetIterable
  split
  · exact absurd rfl (h _ _ _)
  · rfl
theorem const_rep {k : Const} {v : Val} {j : Nat} {p : Pos} (h : cstV k = some v) : PE X (.Constant k j p) (tI X.K X.w cl (.const v)) := by
  unfold cstV at h
  split at h
  · cases h; exact s_const pe_non fun _ _ => by simp [Rep]
  · cases h; exact s_const pe_bl fun _ _ => by simp [Rep]
  · cases h; exact s_const pe_int fun _ _ => by simp [Rep]
  · split at h
    · cases h; exact s_const pe_str fun _ _ => by simp [Rep]
    · cases h
  · cases h
theorem pt_if {a b t : Expr} {ia ib it : E} {pos : Pos} (ht : PT X t (tTt X.K X.w cl it)) (ha : PT X a (tTt X.K X.w cl ia)) (hb : PT X b (tTt X.K X.w cl ib)) : PT X (.IfExp t a b pos) (tTt X.K X.w cl (.ite it ia ib)) := by
  refine ⟨fun pins s σ H Q I h => ?_⟩
  obtain ⟨Mo, L, own, env, k, env', rs, e, q⟩ := h
  obtain ⟨f, e⟩ := boolR_some e
  simp only [ev] at e
  split at e
  · rename_i env1 e1
    refine isTrue_IfExp (thn (ht.run pins s σ H _ I (.go (Q := fun b H' => b = true ∧ ∃ own', Mid X.K X.w Mo L own H σ own' [] H' env1) rs e1 fun H' own' m => ⟨rfl, own', m⟩)) fun c s1 ⟨H1, I1, hb1, own1, m⟩ => ?_)
    subst hb1
    simp only [if_true]
    exact ha.run pins s1 σ H1 Q I1 (.go m.rs0 (by rw [e]; rfl) fun H2 own2 m2 => q H2 own2 (m.two m2))
  · rename_i env1 e1
    refine isTrue_IfExp (thn (ht.run pins s σ H _ I (.go (Q := fun b H' => b = false ∧ ∃ own', Mid X.K X.w Mo L own H σ own' [] H' env1) rs e1 fun H' own' m => ⟨rfl, own', m⟩)) fun c s1 ⟨H1, I1, hb1, own1, m⟩ => ?_)
    subst hb1
    simp only [Bool.false_eq_true, if_false]
    exact hb.run pins s1 σ H1 Q I1 (.go m.rs0 (by rw [e]; rfl) fun H2 own2 m2 => q H2 own2 (m.two m2))
  · cases e
theorem one_and {a : Expr} {pos : Pos} {t : TE} (h : PE X a t) : PE X (.BoolOp .And [a] pos) t := ⟨fun pins s σ H Q I q => h.run pins s σ H Q I q⟩
theorem one_or {a : Expr} {pos : Pos} {t : TE} (h : PE X a t) : PE X (.BoolOp .Or [a] pos) t := ⟨fun pins s σ H Q I q => h.run pins s σ H Q I q⟩
theorem relS_same (scope sc : Scope) : L2.relS scope sc = Q.relS scope sc := rfl
theorem Good.blk (g : Good c X cl) {scope : Scope} (s : Shared) (H : Hp) (C : Addr) (cs : List (Str × Addr)) (fp : List Addr) : Good (c.blk scope) (X.blk s H scope (compEnvC scope cs C X.env) fp) cl :=
  ⟨g.N, by show L2.relS scope X.env.scope = _; rw [g.sc]; rfl, g.nd, g.calm, g.hu, g.blt, g.cst, fun x f io h => by
    obtain ⟨a, fd, ps, k, np, F, hr, hm, hk, hb, hl⟩ := g.fns x f io h
    exact ⟨a, fd, ps, k, np, F, hr, hm, hk, hb, hl⟩⟩
theorem zip_fst {α β : Type} : ∀ {l : List α} {m : List β}, l.length = m.length → (l.zip m).map (·.1) = l
  | [], [], _ => rfl
  | a :: l, b :: m, h => by simp only [List.zip_cons_cons, List.map_cons]; rw [zip_fst (by simpa using h)]
theorem zip_snd {α β : Type} : ∀ {l : List α} {m : List β}, l.length = m.length → (l.zip m).map (·.2) = m
  | [], [], _ => rfl
  | a :: l, b :: m, h => by simp only [List.zip_cons_cons, List.map_cons]; rw [zip_snd (by simpa using h)]
theorem blkOk_ok {N : List Str} {sc scope : Scope} {own : List Str} {sl : List Nat} (h : blkOk N sc scope own = true) (hl : own.length = sl.length) (hx : ∀ p ∈ own.zip sl, N[p.2]? = some p.1) :
    BlkOk N sc scope (own.zip sl) ∧ ∀ x ∈ own, scope.names.lookup x = some .local ∨ scope.names.lookup x = some .cell := by
  unfold blkOk at h
  simp only [Bool.and_eq_true, List.all_eq_true, decide_eq_true_eq] at h
  obtain ⟨⟨⟨h1, h2⟩, h3⟩, h4⟩ := h
  refine ⟨⟨h1, h2, hx, fun y hy e => ?_, fun y hy e => ?_⟩, fun x hx => ?_⟩
  · have q := h3 y hy
    simp only [e] at q
    split at q <;> first | exact .inl (by assumption) | exact .inr (by assumption) | cases q
  · have q := h3 y hy
    rw [zip_fst hl]
    rcases e with e | e <;> (simp only [e, Bool.or_eq_true, decide_eq_true_eq, Bool.not_eq_true', decide_eq_false_iff_not] at q; exact q)
  · have q := h4 x hx
    split at q <;> first | exact .inl (by assumption) | exact .inr (by assumption) | cases q
/-- the slots of a target, its names -/
theorem compT_slots (c : Ctx) : ∀ (n : Nat) (e : Expr) (t : T), compT c n e = some t → (namesT n e).length = (slotsT t).length ∧ ∀ p ∈ (namesT n e).zip (slotsT t), c.N[p.2]? = some p.1 := by
  have nm : ∀ (n : Nat) (x : Str) (p : Pos) (t : T), (if isLoc c.sc x = true then (match ixOf x c.N 0 with | some i => some (T.name i) | none => none) else none) = some t → (namesT n (.Name x p)).length = (slotsT t).length ∧ ∀ q ∈ (namesT n (.Name x p)).zip (slotsT t), c.N[q.2]? = some q.1 := by
    intro n x p t h
    split at h
    · split at h
      · rename_i i hi
        cases h
        obtain ⟨_, h2⟩ := ixOf_get hi
        have : namesT n (.Name x p) = [x] := by cases n <;> rfl
        rw [this]
        refine ⟨rfl, fun q hq => ?_⟩
        simp [slotsT] at hq
        subst hq
        simpa using h2
      · cases h
    · cases h
  intro n
  induction n with
  | zero =>
    intro e t h
    unfold compT at h
    split at h
    · exact nm 0 _ _ t h
    · rename_i hn; cases hn
    · cases h
  | succ n ih =>
    intro e t h
    unfold compT at h
    split at h
    · exact nm (n + 1) _ _ t h
    · rename_i n' es k p hn
      cases hn
      split at h
      · rename_i t' ht
        cases h
        have all : ∀ (es : List Expr) (t : T), compT.compTs c n es = some t → (es.flatMap (namesT n)).length = (slotsT t).length ∧ ∀ p ∈ (es.flatMap (namesT n)).zip (slotsT t), c.N[p.2]? = some p.1 := by
          intro es
          induction es with
          | nil =>
            intro t h
            unfold compT.compTs at h
            cases h
            exact ⟨rfl, by simp⟩
          | cons e r ihr =>
            intro t h
            unfold compT.compTs at h
            split at h
            · rename_i h1 t1 e1 e2
              cases h
              obtain ⟨l1, p1⟩ := ih e h1 e1
              obtain ⟨l2, p2⟩ := ihr t1 e2
              simp only [List.flatMap_cons, slotsT]
              refine ⟨by simp [l1, l2], fun p hp => ?_⟩
              rw [List.zip_append l1] at hp
              rcases List.mem_append.mp hp with hp | hp
              · exact p1 p hp
              · exact p2 p hp
            · cases h
        obtain ⟨l, q⟩ := all es t' ht
        exact ⟨by simpa [namesT, slotsT] using l, by simpa [namesT, slotsT] using q⟩
      · cases h
    · cases h
/-- the target in the block's context -/
theorem Good.tg (g : Good c X cl) {scope : Scope} {tg : Expr} {t : T} (ht : compT (c.blk scope) 8 tg = some t) (hn : ∀ x ∈ namesT 8 tg, scope.names.lookup x = some .local ∨ scope.names.lookup x = some .cell) (s : Shared) (H : Hp) (C : Addr) (cs : List (Str × Addr)) (fp : List Addr) :
    PG (X.blk s H scope (compEnvC scope cs C X.env) fp) tg (gT X.K X.w t) := by
  have gb := g.blk (scope := scope) s H C cs fp
  refine compT_ok (X := X.blk s H scope (compEnvC scope cs C X.env) fp) gb.N gb.sc gb.nd gb.calm 8 tg t ht fun x hx => ?_
  rcases hn x hx with h | h
  · refine .inr ?_
    rw [gb.sc]
    exact lookup_relS_keep (by simp) h
  · refine .inl ?_
    show (scope.names.lookup x == some .cell) = true
    rw [h]; rfl
end
end Q

end
section
set_option Elab.async false
set_option linter.all false
set_option maxRecDepth 100000
set_option maxHeartbeats 4000000
/-! Q: what is compiled reads as it says: the induction. -/
namespace Q
open PySem PySem.Spec PyProof.Rows L2
def GE (n : Nat) (c : Ctx) (X : Cx) (cl : Cl) : Prop := ∀ e ie, compE c n e = some ie → PE X e (tI X.K X.w cl ie) ∧ PT X e (tTt X.K X.w cl ie) ∧ ie ≠ .nil
def GA (n : Nat) (c : Ctx) (X : Cx) (cl : Cl) : Prop := ∀ es ie, compA c n es = some ie → PA X es (tIs X.K X.w cl ie) ∧ (es = [] → ie = .nil)
def GIt (n : Nat) (c : Ctx) (X : Cx) (cl : Cl) : Prop := ∀ tg e ie, compIt c n (isTupE tg) e = some ie → PI X tg e (iI X.K X.w cl ie) ∧ ∀ es k p, e ≠ .Set es k p
structure GAll (n : Nat) (c : Ctx) (X : Cx) (cl : Cl) : Prop where
  e : GE n c X cl
  and : ∀ es ie pos, compAnd c n es = some ie → PE X (.BoolOp .And es pos) (tI X.K X.w cl ie) ∧ PW X (.BoolOp .And es pos) (tTt X.K X.w cl ie) ∧ ie ≠ .nil
  or : ∀ es ie pos, compOr c n es = some ie → PE X (.BoolOp .Or es pos) (tI X.K X.w cl ie) ∧ PW X (.BoolOp .Or es pos) (tTt X.K X.w cl ie) ∧ ie ≠ .nil
  inn : ∀ k a b ie pos, compIn c n k a b = some ie → PE X (.Compare a [if k then .NotIn else .In] [b] pos) (tI X.K X.w cl ie) ∧ PT X (.Compare a [if k then .NotIn else .In] [b] pos) (tTt X.K X.w cl ie) ∧ ie ≠ .nil
  a : GA n c X cl
  d : ∀ ks vs ia, compD c n ks vs = some ia → ∃ trs, Prs X cl ia ks vs trs
  o : ∀ o io, compO c n o = some io → PO X o (tO X.K X.w cl io)
  iff : ∀ es ie, compIf c n es = some ie → PTs X es (tTt X.K X.w cl ie)
  it : GIt n c X cl
  li : ∀ e ie, compLi c n e = some ie → plainA [e] = true → (∀ p pos, Gl X "list" → PE X (.Call (.Name "list" p) [e] [] pos) (tI X.K X.w cl (.list ie))) ∧ (∀ p pos, Gl X "tuple" → PE X (.Call (.Name "tuple" p) [e] [] pos) (tI X.K X.w cl (.tuple ie)))
  call : ∀ x p args kws pos ie, compCall c n x args kws = some ie → PE X (.Call (.Name x p) args kws pos) (tI X.K X.w cl ie) ∧ ie ≠ .nil
  meth : ∀ r m ap args pos ie, plainA args = true → baseOk r = true → (ap.endLine == pos.line) = true → compMeth c n r m args = some ie → PE X (.Call (.Attribute r m ap) args [] pos) (tI X.K X.w cl ie) ∧ ie ≠ .nil
section
variable {c : Ctx} {X : Cx} {cl : Cl} {n : Nat}
theorem s_ifs {es : List Expr} {ie : E} (ih : GE n c X cl) (h : compIf c (n + 1) es = some ie) : PTs X es (tTt X.K X.w cl ie) := by
  unfold compIf at h
  split at h
  · cases h; exact pts_true
  · exact pts_one (ih _ _ h).2.1
  · cases h
theorem s_args {es : List Expr} {ie : E} (g : Good c X cl) (ih : GE n c X cl) (iha : GA n c X cl) (h : compA c (n + 1) es = some ie) : PA X es (tIs X.K X.w cl ie) ∧ (es = [] → ie = .nil) := by
  unfold compA at h
  split at h
  · cases h; exact ⟨s_anil, fun _ => rfl⟩
  · split at h
    · rename_i h1 h2
      cases h
      exact ⟨s_ascons g.calm (ih _ _ h1).1 (iha _ _ h2).1, fun z => nomatch z⟩
    · cases h
  · rename_i hn
    split at h
    · rename_i h1 h2
      cases h
      exact ⟨s_acons (ih _ _ h1).1 (iha _ _ h2).1 (fun x p e => hn x p e), fun z => nomatch z⟩
    · cases h
theorem s_opt {o : Option Expr} {io : E} (ih : GE n c X cl) (h : compO c (n + 1) o = some io) : PO X o (tO X.K X.w cl io) := by
  cases o with
  | none => unfold compO at h; cases h; exact s_none
  | some e =>
    unfold compO at h
    split at h
    · cases h
    · exact s_some (ih _ _ h).1 (ih _ _ h).2.2
theorem s_prs {ks : List (Option Expr)} {vs : List Expr} {ia : E} (ih : GE n c X cl) (ihd : ∀ ks vs ia, compD c n ks vs = some ia → ∃ trs, Prs X cl ia ks vs trs) (h : compD c (n + 1) ks vs = some ia) : ∃ trs, Prs X cl ia ks vs trs := by
  unfold compD at h
  split at h
  · cases h; exact ⟨_, .nil⟩
  · split at h
    · rename_i h1 h2 h3
      cases h
      obtain ⟨trs, hp⟩ := ihd _ _ _ h3
      exact ⟨_, .cons (ih _ _ h1).1 (ih _ _ h2).1 hp⟩
    · cases h
  · cases h
theorem s_and' {es : List Expr} {ie : E} {pos : Pos} (ih : GE n c X cl) (iha : ∀ es ie pos, compAnd c n es = some ie → PE X (.BoolOp .And es pos) (tI X.K X.w cl ie) ∧ PW X (.BoolOp .And es pos) (tTt X.K X.w cl ie) ∧ ie ≠ .nil) (h : compAnd c (n + 1) es = some ie) :
    PE X (.BoolOp .And es pos) (tI X.K X.w cl ie) ∧ PW X (.BoolOp .And es pos) (tTt X.K X.w cl ie) ∧ ie ≠ .nil := by
  unfold compAnd at h
  split at h
  · obtain ⟨h1, h2, h3⟩ := ih _ _ h
    exact ⟨one_and h1, pw_and1 h2, h3⟩
  · rename_i a r hr
    split at h
    · rename_i h1 h2
      cases h
      cases r with
      | nil => exact absurd rfl hr
      | cons b r =>
        obtain ⟨q1, q2, q3⟩ := ih _ _ h1
        obtain ⟨r1, r2, r3⟩ := iha _ _ pos h2
        exact ⟨s_andV q1 r1, s_and q2 r2, by simp⟩
    · cases h
  · cases h
theorem s_or' {es : List Expr} {ie : E} {pos : Pos} (ih : GE n c X cl) (iha : ∀ es ie pos, compOr c n es = some ie → PE X (.BoolOp .Or es pos) (tI X.K X.w cl ie) ∧ PW X (.BoolOp .Or es pos) (tTt X.K X.w cl ie) ∧ ie ≠ .nil) (h : compOr c (n + 1) es = some ie) :
    PE X (.BoolOp .Or es pos) (tI X.K X.w cl ie) ∧ PW X (.BoolOp .Or es pos) (tTt X.K X.w cl ie) ∧ ie ≠ .nil := by
  unfold compOr at h
  split at h
  · obtain ⟨h1, h2, h3⟩ := ih _ _ h
    exact ⟨one_or h1, pw_or1 h2, h3⟩
  · rename_i a r hr
    split at h
    · rename_i h1 h2
      cases h
      cases r with
      | nil => exact absurd rfl hr
      | cons b r =>
        obtain ⟨q1, q2, q3⟩ := ih _ _ h1
        obtain ⟨r1, r2, r3⟩ := iha _ _ pos h2
        exact ⟨s_orV q1 r1, s_or q2 r2, by simp⟩
    · cases h
  · cases h
theorem s_in {k : Bool} {a b : Expr} {ie : E} {pos : Pos} (g : Good c X cl) (ih : GE n c X cl) (h : compIn c (n + 1) k a b = some ie) :
    PE X (.Compare a [if k then .NotIn else .In] [b] pos) (tI X.K X.w cl ie) ∧ PT X (.Compare a [if k then .NotIn else .In] [b] pos) (tTt X.K X.w cl ie) ∧ ie ≠ .nil := by
  have two : ∀ {ia ib : E}, compE c n a = some ia → compE c n b = some ib → PE X (.Compare a [if k then .NotIn else .In] [b] pos) (tI X.K X.w cl (.cmp (if k then .notin else .in_) ia ib)) ∧ PT X (.Compare a [if k then .NotIn else .In] [b] pos) (tTt X.K X.w cl (.cmp (if k then .notin else .in_) ia ib)) := fun h1 h2 =>
    ⟨s_cmp (o_in g.hu k) (ih _ _ h1).1 (ih _ _ h2).1 (nomarks (compE_ns h2).2.1), s_cmpT (o_in g.hu k) (ih _ _ h1).1 (ih _ _ h2).1 (nomarks (compE_ns h2).2.1)⟩
  unfold compIn at h
  generalize (if k = true then Cm.notin else Cm.in_) = oo at h two
  split at h
  · rename_i x p
    split at h
    · rename_i i hi
      split at h
      · rename_i h1
        cases h
        exact ⟨s_inv g.hu (ih _ _ h1).1 (g.var hi p), s_invT g.hu (ih _ _ h1).1 (g.var hi p), by simp⟩
      · cases h
    · split at h
      · rename_i h1 h2
        cases h
        obtain ⟨q1, q2⟩ := two h1 h2
        exact ⟨q1, q2, by simp⟩
      · cases h
  · split at h
    · rename_i h1 h2
      cases h
      obtain ⟨q1, q2⟩ := two h1 h2
      exact ⟨q1, q2, by simp⟩
    · cases h
theorem plain2 {a b : Expr} (h : plainA [a, b] = true) : (∀ x p, a ≠ .Starred x p) ∧ ∀ x p, b ≠ .Starred x p :=
  ⟨plainA_ne h, plainA_ne (plainA_cons (env := default) h).2⟩
theorem plain3 {a b d : Expr} (h : plainA [a, b, d] = true) : (∀ x p, a ≠ .Starred x p) ∧ (∀ x p, b ≠ .Starred x p) ∧ ∀ x p, d ≠ .Starred x p :=
  ⟨plainA_ne h, plainA_ne (plainA_cons (env := default) h).2, plainA_ne (plainA_cons (env := default) (plainA_cons (env := default) h).2).2⟩
theorem isTupE_eq {tg : Expr} (h : isTupE tg = true) : ∃ es k p, tg = .Tuple es k p := by
  cases tg <;> first | exact ⟨_, _, _, rfl⟩ | cases h
theorem s_it {tg e : Expr} {ie : E} (g : Good c X cl) (ih : GE n c X cl) (h : compIt c (n + 1) (isTupE tg) e = some ie) : PI X tg e (iI X.K X.w cl ie) ∧ ∀ es k p, e ≠ .Set es k p := by
  have fall : ∀ {ie : E}, compE c n e = some ie → PI X tg e (iI X.K X.w cl ie) ∧ ∀ es k p, e ≠ .Set es k p := fun h1 => ⟨p_expr g.calm (ih _ _ h1).1, (compE_ns h1).2.1⟩
  unfold compIt at h
  split at h
  · rename_i x p args pos
    split at h
    · rename_i hx
      obtain ⟨rfl, hg, hm⟩ := g.bl hx (by decide)
      refine ⟨?_, fun _ _ _ z => nomatch z⟩
      split at h
      · split at h
        · rename_i hp
          split at h
          · rename_i h1
            cases h
            exact p_range1 hg hm (s_acons (ih _ _ h1).1 s_anil (plainA_ne hp)) (plainA_ne hp)
          · cases h
        · cases h
      · split at h
        · rename_i hp
          obtain ⟨q1, q2⟩ := plain2 hp
          split at h
          · rename_i h1 h2
            cases h
            exact p_range2 hg hm (s_acons (ih _ _ h1).1 (s_acons (ih _ _ h2).1 s_anil q2) q1) q1 q2
          · cases h
        · cases h
      · split at h
        · rename_i hp
          obtain ⟨q1, q2, q3⟩ := plain3 hp
          split at h
          · rename_i h1 h2 h3
            cases h
            exact p_range3 hg hm (s_acons (ih _ _ h1).1 (s_acons (ih _ _ h2).1 (s_acons (ih _ _ h3).1 s_anil q3) q2) q1) q1 q2 q3
          · cases h
        · cases h
      · cases h
    · split at h
      · rename_i hx
        obtain ⟨rfl, hg, hm⟩ := g.bl hx (by decide)
        refine ⟨?_, fun _ _ _ z => nomatch z⟩
        split at h
        · split at h
          · rename_i hp
            rw [Bool.and_eq_true] at hp
            obtain ⟨es, k, tp, rfl⟩ := isTupE_eq hp.1
            split at h
            · rename_i h1
              cases h
              exact p_enum hg hm (ih _ _ h1).1 (plainA_ne hp.2)
            · cases h
          · cases h
        · cases h
      · split at h
        · rename_i hx
          obtain ⟨rfl, hg, hm⟩ := g.bl hx (by decide)
          refine ⟨?_, fun _ _ _ z => nomatch z⟩
          split at h
          · split at h
            · rename_i hp
              rw [Bool.and_eq_true] at hp
              obtain ⟨es, k, tp, rfl⟩ := isTupE_eq hp.1
              obtain ⟨q1, q2⟩ := plain2 hp.2
              split at h
              · rename_i h1 h2
                cases h
                exact p_zip2 hg hm (s_acons (ih _ _ h1).1 (s_acons (ih _ _ h2).1 s_anil q2) q1) q1 q2
              · cases h
            · cases h
          · split at h
            · rename_i hp
              rw [Bool.and_eq_true] at hp
              obtain ⟨es, k, tp, rfl⟩ := isTupE_eq hp.1
              split at h
              · rename_i h1 h2 h3
                cases h
                exact p_zip3 g.calm hg hm (ih _ _ h1).1 (ih _ _ h2).1 (ih _ _ h3).1 hp.2
              · cases h
            · cases h
          · cases h
        · exact fall h
  · rename_i r m ap pos
    split at h
    · rename_i hm
      subst hm
      split at h
      · rename_i hp
        simp only [Bool.and_eq_true] at hp
        obtain ⟨es, k, tp, rfl⟩ := isTupE_eq hp.1.1
        split at h
        · rename_i h1
          cases h
          exact ⟨p_items (ih _ _ h1).1 (base_ok hp.1.2) hp.2, fun _ _ _ z => nomatch z⟩
        · cases h
      · cases h
    · exact fall h
  · exact fall h
theorem s_li {e : Expr} {ie : E} (g : Good c X cl) (ih : GE n c X cl) (h : compLi c (n + 1) e = some ie) (hp : plainA [e] = true) :
    (∀ p pos, Gl X "list" → PE X (.Call (.Name "list" p) [e] [] pos) (tI X.K X.w cl (.list ie))) ∧ (∀ p pos, Gl X "tuple" → PE X (.Call (.Name "tuple" p) [e] [] pos) (tI X.K X.w cl (.tuple ie))) := by
  have ml := g.blt "list" (by decide)
  have mt := g.blt "tuple" (by decide)
  have fall : ∀ {ie : E}, compE c n e = some ie → (∀ p pos, Gl X "list" → PE X (.Call (.Name "list" p) [e] [] pos) (tI X.K X.w cl (.list ie))) ∧ (∀ p pos, Gl X "tuple" → PE X (.Call (.Name "tuple" p) [e] [] pos) (tI X.K X.w cl (.tuple ie))) :=
    fun h1 => ⟨fun p pos hg => s_list hg ml (ih _ _ h1).1 hp, fun p pos hg => s_tuple hg mt (ih _ _ h1).1 hp⟩
  have pr : ∀ {ie : E}, PR3 X e (tR X.K X.w cl ie) → (∀ p pos, Gl X "list" → PE X (.Call (.Name "list" p) [e] [] pos) (tI X.K X.w cl (.list ie))) ∧ (∀ p pos, Gl X "tuple" → PE X (.Call (.Name "tuple" p) [e] [] pos) (tI X.K X.w cl (.tuple ie))) :=
    fun h1 => ⟨fun p pos hg => s_listR g.calm hg ml h1 hp, fun p pos hg => s_tupleR g.calm hg mt h1 hp⟩
  unfold compLi at h
  split at h
  · rename_i x p args pos
    split at h
    · rename_i hx
      obtain ⟨rfl, hg, hm⟩ := g.bl hx (by decide)
      split at h
      · split at h
        · rename_i hp
          split at h
          · rename_i h1
            cases h
            exact pr (pr_1 hg hm (ih _ _ h1).1 hp)
          · cases h
        · cases h
      · split at h
        · rename_i hp
          split at h
          · rename_i h1 h2
            cases h
            exact pr (pr_2 hg hm (ih _ _ h1).1 (ih _ _ h2).1 hp)
          · cases h
        · cases h
      · split at h
        · rename_i hp
          split at h
          · rename_i h1 h2 h3
            cases h
            exact pr (pr_3 hg hm (ih _ _ h1).1 (ih _ _ h2).1 (ih _ _ h3).1 hp)
          · cases h
        · cases h
      · cases h
    · split at h
      · rename_i hx
        obtain ⟨rfl, hg, hm⟩ := g.bl hx (by decide)
        split at h
        · split at h
          · rename_i hp
            split at h
            · rename_i h1 h2
              cases h
              exact ⟨fun p pos hgl => s_listZ2 g.calm hgl ml hg hm (ih _ _ h1).1 (ih _ _ h2).1 hp, fun p pos hgl => s_tupleZ2 g.calm hgl mt hg hm (ih _ _ h1).1 (ih _ _ h2).1 hp⟩
            · cases h
          · cases h
        · split at h
          · rename_i hp
            split at h
            · rename_i h1 h2 h3
              cases h
              exact ⟨fun p pos hgl => s_listZ3 g.calm hgl ml hg hm (ih _ _ h1).1 (ih _ _ h2).1 (ih _ _ h3).1 hp, fun p pos hgl => s_tupleZ3 g.calm hgl mt hg hm (ih _ _ h1).1 (ih _ _ h2).1 (ih _ _ h3).1 hp⟩
            · cases h
          · cases h
        · cases h
      · exact fall h
  · exact fall h
theorem tyOf_ok {x : Str} {t : Ty} (g : Good c X cl) (h : tyOf c x = some t) : x = Str.ofString (tyS t) ∧ Gl X x ∧ X.mg x = none := by
  unfold tyOf at h
  split at h
  · rename_i h1; cases h; obtain ⟨rfl, a, b⟩ := g.bl h1 (by decide); exact ⟨rfl, a, b⟩
  · split at h
    · rename_i h1; cases h; obtain ⟨rfl, a, b⟩ := g.bl h1 (by decide); exact ⟨rfl, a, b⟩
    · split at h
      · rename_i h1; cases h; obtain ⟨rfl, a, b⟩ := g.bl h1 (by decide); exact ⟨rfl, a, b⟩
      · split at h
        · rename_i h1; cases h; obtain ⟨rfl, a, b⟩ := g.bl h1 (by decide); exact ⟨rfl, a, b⟩
        · split at h
          · rename_i h1; cases h; obtain ⟨rfl, a, b⟩ := g.bl h1 (by decide); exact ⟨rfl, a, b⟩
          · cases h
theorem b1_ok {x : Str} {k : B} {a : Expr} {ia : E} {p pos : Pos} (g : Good c X cl) (h : b1 c x = some k) (ha : PE X a (tI X.K X.w cl ia)) (hp : plainA [a] = true) : PE X (.Call (.Name x p) [a] [] pos) (tI X.K X.w cl (.bcall k (.cons ia .nil))) := by
  have pa := s_acons ha (s_anil (X := X) (cl := cl)) (plainA_ne hp)
  unfold b1 at h
  by_cases h1 : bltIs c x "len" = true
  · rw [if_pos h1] at h
    cases h
    obtain ⟨rfl, hg, hm⟩ := g.bl h1 (by decide)
    exact s_bc (k := .len) o_lenA hg hm (by rfl) pa hp (by decide) (by decide)
  rw [if_neg h1] at h
  clear h1
  by_cases h1 : bltIs c x "abs" = true
  · rw [if_pos h1] at h
    cases h
    obtain ⟨rfl, hg, hm⟩ := g.bl h1 (by decide)
    exact s_bc (k := .abs) o_abs hg hm (by rfl) pa hp (by decide) (by decide)
  rw [if_neg h1] at h
  clear h1
  by_cases h1 : bltIs c x "sum" = true
  · rw [if_pos h1] at h
    cases h
    obtain ⟨rfl, hg, hm⟩ := g.bl h1 (by decide)
    exact s_bc (k := .sum) (o_sum g.calm) hg hm (by rfl) pa hp (by decide) (by decide)
  rw [if_neg h1] at h
  clear h1
  by_cases h1 : bltIs c x "min" = true
  · rw [if_pos h1] at h
    cases h
    obtain ⟨rfl, hg, hm⟩ := g.bl h1 (by decide)
    exact s_bc (k := .min) (o_min g.calm) hg hm (by rfl) pa hp (by decide) (by decide)
  rw [if_neg h1] at h
  clear h1
  by_cases h1 : bltIs c x "max" = true
  · rw [if_pos h1] at h
    cases h
    obtain ⟨rfl, hg, hm⟩ := g.bl h1 (by decide)
    exact s_bc (k := .max) (o_max g.calm) hg hm (by rfl) pa hp (by decide) (by decide)
  rw [if_neg h1] at h
  clear h1
  by_cases h1 : bltIs c x "all" = true
  · rw [if_pos h1] at h
    cases h
    obtain ⟨rfl, hg, hm⟩ := g.bl h1 (by decide)
    exact s_bc (k := .all) (o_all g.calm) hg hm (by rfl) pa hp (by decide) (by decide)
  rw [if_neg h1] at h
  clear h1
  by_cases h1 : bltIs c x "any" = true
  · rw [if_pos h1] at h
    cases h
    obtain ⟨rfl, hg, hm⟩ := g.bl h1 (by decide)
    exact s_bc (k := .any) (o_any g.calm) hg hm (by rfl) pa hp (by decide) (by decide)
  rw [if_neg h1] at h
  clear h1
  by_cases h1 : bltIs c x "int" = true
  · rw [if_pos h1] at h
    cases h
    obtain ⟨rfl, hg, hm⟩ := g.bl h1 (by decide)
    exact s_bt (k := .int) o_int hg hm (by rfl) pa hp (by decide) (by decide)
  rw [if_neg h1] at h
  clear h1
  by_cases h1 : bltIs c x "sorted" = true
  · rw [if_pos h1] at h
    cases h
    obtain ⟨rfl, hg, hm⟩ := g.bl h1 (by decide)
    exact s_bc (k := .sorted) (o_sorted g.calm) hg hm (by rfl) pa hp (by decide) (by decide)
  rw [if_neg h1] at h
  clear h1
  by_cases h1 : bltIs c x "set" = true
  · rw [if_pos h1] at h
    cases h
    obtain ⟨rfl, hg, hm⟩ := g.bl h1 (by decide)
    exact s_bt (k := .set) (o_set g.calm) hg hm (by rfl) pa hp (by decide) (by decide)
  rw [if_neg h1] at h
  clear h1
  by_cases h1 : bltIs c x "dict" = true
  · rw [if_pos h1] at h
    cases h
    obtain ⟨rfl, hg, hm⟩ := g.bl h1 (by decide)
    exact s_bt (k := .dict) (o_dict g.calm) hg hm (by rfl) pa hp (by decide) (by decide)
  rw [if_neg h1] at h
  clear h1
  by_cases h1 : bltIs c x "str" = true
  · rw [if_pos h1] at h
    cases h
    obtain ⟨rfl, hg, hm⟩ := g.bl h1 (by decide)
    exact s_bt (k := .str) (id := "str") (fun pins s σ H xs us Q I rv ⟨N, va, r, hN, ra, e, q⟩ => nomatch e) hg hm (by rfl) pa hp (by decide) (by decide)
  rw [if_neg h1] at h
  cases h
abbrev LiOk (n : Nat) (c : Ctx) (X : Cx) (cl : Cl) : Prop := ∀ e ie, compLi c n e = some ie → plainA [e] = true → (∀ p pos, Gl X "list" → PE X (.Call (.Name "list" p) [e] [] pos) (tI X.K X.w cl (.list ie))) ∧ (∀ p pos, Gl X "tuple" → PE X (.Call (.Name "tuple" p) [e] [] pos) (tI X.K X.w cl (.tuple ie)))
theorem s_callP {x : Str} {p pos : Pos} {a : Expr} {ie : E} (g : Good c X cl) (ih : GE n c X cl) (hp : plainA [a] = true) (h : callP c (fun a => compE c n a) x a = some ie) : PE X (.Call (.Name x p) [a] [] pos) (tI X.K X.w cl ie) ∧ ie ≠ .nil := by
  unfold callP at h
  split at h
  · rename_i h1 h2
    cases h
    exact ⟨b1_ok g h1 (ih _ _ h2).1 hp, by simp⟩
  · cases h
theorem s_callD {x : Str} {p pos : Pos} {args : List Expr} {f : Nat} {io : Bool} {ie : E} (g : Good c X cl) (iha : GA n c X cl) (hok : CallOk X cl x f io) (hg : Gl X x) (hdb : (x == ("__debug__" : Str)) = false) (hp : plainA args = true)
    (h : callDef c (fun a => compA c n a) f io args = some ie) : PE X (.Call (.Name x p) args [] pos) (tI X.K X.w cl ie) ∧ ie ≠ .nil := by
  unfold callDef at h
  split at h
  · rename_i hio
    subst hio
    split at h
    · rename_i y p1 r
      split at h
      · rename_i i a hi ha
        cases h
        exact ⟨s_callio hok hg hdb (g.var hi p1) (iha _ _ ha).1 hp, by simp⟩
      · cases h
    · cases h
  · rename_i hio
    have hio : io = false := by simpa using hio
    subst hio
    split at h
    · rename_i a ha
      cases h
      refine ⟨?_, by simp⟩
      cases args with
      | nil =>
        have := (iha _ _ ha).2 rfl
        subst this
        exact s_call0 hok hg hdb
      | cons e es => exact s_call hok hg hdb (iha _ _ ha).1 hp
    · cases h
theorem s_callB1 {x : Str} {p pos : Pos} {a : Expr} {ie : E} (g : Good c X cl) (ih : GE n c X cl) (ihl : LiOk n c X cl) (hp : plainA [a] = true) (h : callB1 c (fun a => compE c n a) (fun a => compLi c n a) x a = some ie) :
    PE X (.Call (.Name x p) [a] [] pos) (tI X.K X.w cl ie) ∧ ie ≠ .nil := by
  unfold callB1 at h
  split at h
  · rename_i hx
    obtain ⟨rfl, hgx, hmx⟩ := g.bl hx (by decide)
    split at h
    · rename_i h1
      cases h
      exact ⟨(ihl _ _ h1 hp).1 _ _ hgx, by simp⟩
    · cases h
  · split at h
    · rename_i hx
      obtain ⟨rfl, hgx, hmx⟩ := g.bl hx (by decide)
      split at h
      · rename_i h1
        cases h
        exact ⟨(ihl _ _ h1 hp).2 _ _ hgx, by simp⟩
      · cases h
    · split at h
      · rename_i y p1
        split at h
        · rename_i i hx hi
          cases h
          obtain ⟨rfl, hgx, hmx⟩ := g.bl hx (by decide)
          exact ⟨s_lenv hgx hmx (g.var hi p1), by simp⟩
        · exact s_callP g ih hp h
      · rename_i y p1 z pos2
        split at h
        · rename_i hy
          rw [Bool.and_eq_true] at hy
          obtain ⟨rfl, hgy, hmy⟩ := g.bl hy.1 (by decide)
          obtain ⟨rfl, hgx, hmx⟩ := g.bl hy.2 (by decide)
          split at h
          · rename_i h1
            cases h
            have hpz : plainA [z] = true := by
              have := (compE_ns h1).2.2
              cases z <;> first | rfl | exact absurd rfl (this _ _)
            exact ⟨s_lenset g.calm hgx hmx hgy hmy (ih _ _ h1).1 hpz, by simp⟩
          · cases h
        · split at h
          · rename_i hy
            rw [Bool.and_eq_true] at hy
            obtain ⟨rfl, hgy, hmy⟩ := g.bl hy.1 (by decide)
            obtain ⟨rfl, hgx, hmx⟩ := g.bl hy.2 (by decide)
            split at h
            · rename_i h1
              cases h
              have hpz : plainA [z] = true := by
                have := (compE_ns h1).2.2
                cases z <;> first | rfl | exact absurd rfl (this _ _)
              exact ⟨s_sortedset g.calm hgx hmx hgy hmy (ih _ _ h1).1 hpz, by simp⟩
            · cases h
          · exact s_callP g ih hp h
      · exact s_callP g ih hp h
theorem s_callB2 {x : Str} {p pos : Pos} {a b : Expr} {ie : E} (g : Good c X cl) (ih : GE n c X cl) (hp : plainA [a, b] = true) (h : callB2 c (fun a => compE c n a) x a b = some ie) :
    PE X (.Call (.Name x p) [a, b] [] pos) (tI X.K X.w cl ie) ∧ ie ≠ .nil := by
  unfold callB2 at h
  split at h
  · rename_i hx
    obtain ⟨rfl, hgx, hmx⟩ := g.bl hx (by decide)
    have hpa : plainA [a] = true := by
      have := (plain2 hp).1
      cases a <;> first | rfl | exact absurd rfl (this _ _)
    split at h
    · rename_i y p1 h1
      split at h
      · rename_i h2
        cases h
        obtain ⟨e1, e2, e3⟩ := tyOf_ok g h2
        exact ⟨s_isi1 hgx hmx (ih _ _ h1).1 e1 e2 e3 hpa, by simp⟩
      · cases h
    · rename_i y p1 z p2 k p3 h1
      split at h
      · rename_i h2 h3
        cases h
        obtain ⟨e1, e2, e3⟩ := tyOf_ok g h2
        obtain ⟨f1, f2, f3⟩ := tyOf_ok g h3
        exact ⟨s_isi2 hgx hmx (ih _ _ h1).1 e1 e2 e3 f1 f2 f3 hpa, by simp⟩
      · cases h
    · cases h
  · split at h
    · rename_i k h1 h2 h3
      cases h
      refine ⟨?_, by simp⟩
      obtain ⟨q1, q2⟩ := plain2 hp
      have pa := s_acons (ih _ _ h2).1 (s_acons (ih _ _ h3).1 s_anil q2) q1
      unfold bn at h1
      simp only at h1
      split at h1
      · rename_i hx; cases h1; obtain ⟨rfl, hgx, hmx⟩ := g.bl hx (by decide)
        exact s_bc (k := .min2) (o_min2 g.calm) hgx hmx (by rfl) pa hp (by decide) (by decide)
      · split at h1
        · rename_i hx; cases h1; obtain ⟨rfl, hgx, hmx⟩ := g.bl hx (by decide)
          exact s_bc (k := .max2) (o_max2 g.calm) hgx hmx (by rfl) pa hp (by decide) (by decide)
        · cases h1
    · cases h
theorem s_callB3 {x : Str} {p pos : Pos} {a b d : Expr} {ie : E} (g : Good c X cl) (ih : GE n c X cl) (hp : plainA [a, b, d] = true) (h : callB3 c (fun a => compE c n a) x a b d = some ie) :
    PE X (.Call (.Name x p) [a, b, d] [] pos) (tI X.K X.w cl ie) ∧ ie ≠ .nil := by
  unfold callB3 at h
  split at h
  · rename_i k h1 h2 h3 h4
    cases h
    refine ⟨?_, by simp⟩
    obtain ⟨q1, q2, q3⟩ := plain3 hp
    have pa := s_acons (ih _ _ h2).1 (s_acons (ih _ _ h3).1 (s_acons (ih _ _ h4).1 s_anil q3) q2) q1
    unfold bn at h1
    simp only at h1
    split at h1
    · rename_i hx; cases h1; obtain ⟨rfl, hgx, hmx⟩ := g.bl hx (by decide)
      exact s_bc (k := .max3) (o_max3 g.calm) hgx hmx (by rfl) pa hp (by decide) (by decide)
    · cases h1
  · cases h
theorem s_callK {x k : Str} {p pos kp : Pos} {a d : Expr} {ie : E} (g : Good c X cl) (ih : GE n c X cl) (hp : plainA [a] = true) (h : callKw c (fun a => compE c n a) x k a d = some ie) :
    PE X (.Call (.Name x p) [a] [⟨some k, d, kp⟩] pos) (tI X.K X.w cl ie) ∧ ie ≠ .nil := by
  unfold callKw at h
  split at h
  · rename_i hk
    subst hk
    split at h
    · rename_i hx
      obtain ⟨rfl, hgx, hmx⟩ := g.bl hx (by decide)
      split at h
      · rename_i h2 h3
        cases h
        exact ⟨s_minD g.calm hgx hmx (ih _ _ h2).1 (ih _ _ h3).1 hp, by simp⟩
      · cases h
    · split at h
      · rename_i hx
        obtain ⟨rfl, hgx, hmx⟩ := g.bl hx (by decide)
        split at h
        · rename_i h2 h3
          cases h
          exact ⟨s_maxD g.calm hgx hmx (ih _ _ h2).1 (ih _ _ h3).1 hp, by simp⟩
        · cases h
      · cases h
  · cases h
theorem s_call' {x : Str} {p pos : Pos} {args : List Expr} {kws : List Keyword} {ie : E} (g : Good c X cl) (ih : GE n c X cl) (iha : GA n c X cl) (ihl : LiOk n c X cl)
    (h : compCall c (n + 1) x args kws = some ie) : PE X (.Call (.Name x p) args kws pos) (tI X.K X.w cl ie) ∧ ie ≠ .nil := by
  unfold compCall at h
  split at h
  · rename_i hgl
    rw [Bool.and_eq_true] at hgl
    obtain ⟨hgl, hp⟩ := hgl
    obtain ⟨hg0, hdb⟩ := isGl_gl hgl
    have hg := g.gl hg0
    split at h
    · rename_i f io hf
      split at h
      · rename_i hk
        cases kws with
        | nil => exact s_callD g iha (g.fns x f io hf) hg hdb hp h
        | cons _ _ => cases hk
      · cases h
    · split at h
      · split at h
        · exact s_callB1 g ih ihl hp h
        · exact s_callB2 g ih hp h
        · exact s_callB3 g ih hp h
        · cases h
      · split at h
        · exact s_callK g ih hp h
        · cases h
      · cases h
  · cases h
theorem s_methV {y : Str} {p1 ap pos : Pos} {m : Str} {args : List Expr} {i : Nat} {ie : E} (g : Good c X cl) (ih : GE n c X cl) (hi : slot? c y = some i) (hp : plainA args = true) (hl : (ap.endLine == pos.line) = true) (h : methV (fun a => compE c n a) i m args = some ie) :
    PE X (.Call (.Attribute (.Name y p1) m ap) args [] pos) (tI X.K X.w cl ie) ∧ ie ≠ .nil := by
  have hv := g.var hi p1
  unfold methV at h
  split at h
  · rename_i hm; subst hm
    split at h
    · split at h
      · rename_i h1; cases h; exact ⟨s_getv1 g.hu hv (ih _ _ h1).1 hl hp, by simp⟩
      · cases h
    · split at h
      · rename_i h1 h2; cases h; exact ⟨s_getv2 g.hu hv (ih _ _ h1).1 (ih _ _ h2).1 hl hp, by simp⟩
      · cases h
    · cases h
  · split at h
    · rename_i hm; subst hm
      split at h
      · cases h; exact ⟨s_pop0 hv hl, by simp⟩
      · split at h
        · rename_i h1; cases h; exact ⟨s_pop1 hv (ih _ _ h1).1 hl hp, by simp⟩
        · cases h
      · cases h
    · split at h
      · rename_i hm; subst hm
        split at h
        · cases h; exact ⟨s_bits (s_var hv) rfl hl, by simp⟩
        · cases h
      · split at h
        · rename_i hm; subst hm
          split at h
          · split at h
            · rename_i h1; cases h; exact ⟨s_count g.hu (s_var hv) (ih _ _ h1).1 rfl hl hp, by simp⟩
            · cases h
          · cases h
        · split at h
          · rename_i hm; subst hm
            split at h
            · split at h
              · rename_i h1; cases h; exact ⟨s_index g.hu (s_var hv) (ih _ _ h1).1 rfl hl hp, by simp⟩
              · cases h
            · cases h
          · cases h
theorem s_methR {r : Expr} {ir : E} {ap pos : Pos} {m : Str} {args : List Expr} {ie : E} (g : Good c X cl) (ih : GE n c X cl) (hr : PE X r (tI X.K X.w cl ir)) (hb : baseOk r = true) (hp : plainA args = true) (hl : (ap.endLine == pos.line) = true) (h : methR (fun a => compE c n a) ir m args = some ie) :
    PE X (.Call (.Attribute r m ap) args [] pos) (tI X.K X.w cl ie) ∧ ie ≠ .nil := by
  unfold methR at h
  split at h
  · rename_i hm; subst hm
    split at h
    · split at h
      · rename_i h1; cases h; exact ⟨s_mget1 g.hu hr (ih _ _ h1).1 hb hl hp, by simp⟩
      · cases h
    · split at h
      · rename_i h1 h2; cases h; exact ⟨s_mget2 g.hu hr (ih _ _ h1).1 (ih _ _ h2).1 hb hl hp, by simp⟩
      · cases h
    · cases h
  · split at h
    · rename_i hm; subst hm
      split at h
      · split at h
        · rename_i h1; cases h; exact ⟨s_count g.hu hr (ih _ _ h1).1 hb hl hp, by simp⟩
        · cases h
      · cases h
    · split at h
      · rename_i hm; subst hm
        split at h
        · split at h
          · rename_i h1; cases h; exact ⟨s_index g.hu hr (ih _ _ h1).1 hb hl hp, by simp⟩
          · cases h
        · cases h
      · cases h
theorem s_meth {r : Expr} {ap pos : Pos} {m : Str} {args : List Expr} {ie : E} (g : Good c X cl) (ih : GE n c X cl) (hp : plainA args = true) (hb : baseOk r = true) (hl : (ap.endLine == pos.line) = true) (h : compMeth c (n + 1) r m args = some ie) :
    PE X (.Call (.Attribute r m ap) args [] pos) (tI X.K X.w cl ie) ∧ ie ≠ .nil := by
  unfold compMeth at h
  split at h
  · split at h
    · rename_i hi
      exact s_methV g ih hi hp hl h
    · cases h
  · split at h
    · rename_i hr
      exact s_methR g ih (ih _ _ hr).1 hb hp hl h
    · cases h
/-- a comprehension -/
theorem s_lc {elt tg it : Expr} {ifs : List Expr} {scope : Scope} {pos : Pos} {ii ik ie : E} {t : T} (g : Good c X cl) (all : ∀ c X, Good c X cl → GAll n c X cl) (hb : blkOk c.N c.sc scope (namesT 8 tg) = true)
    (h1 : compIt c n (isTupE tg) it = some ii) (h2 : compT (c.blk scope) 8 tg = some t) (h3 : compIf (c.blk scope) n ifs = some ik) (h4 : compE (c.blk scope) n elt = some ie) :
    PE X (.ListComp elt [⟨tg, it, ifs, 0⟩] scope pos) (tI X.K X.w cl (.comp ie t ii ik)) := by
  obtain ⟨l, q⟩ := compT_slots (c.blk scope) 8 tg t h2
  obtain ⟨ok, hn⟩ := blkOk_ok hb l q
  have ga := all c X g
  obtain ⟨pi, ns⟩ := ga.it tg it ii h1
  have e : ((namesT 8 tg).zip (slotsT t)).map (·.2) = slotsT t := zip_snd l
  have key := pe_lc (pos := pos) (elt := elt) (ifs := ifs) (g := gT X.K X.w t) (tt := tTt X.K X.w cl ik) (te := tI X.K X.w cl ie) g.calm g.nd pi (by rw [g.N, g.sc]; exact ok) (fun s H C cs fp => g.tg h2 hn s H C cs fp)
    (fun s H C cs fp => (all _ _ (g.blk s H C cs fp)).iff ifs ik h3) (fun s H C cs fp => ((all _ _ (g.blk s H C cs fp)).e elt ie h4).1) (folded ns)
  rw [e] at key
  exact key.weak lc_read
end
end Q

end
section
set_option Elab.async false
set_option linter.all false
set_option maxRecDepth 100000
set_option maxHeartbeats 4000000
/-! Q: what is compiled reads as it says: all expressions. -/
namespace Q
open PySem PySem.Spec PyProof.Rows L2
section
variable {c : Q.Ctx} {X : Cx} {cl : Cl} {n : Nat}
theorem plain_test {e : Expr} {ie : E} (he : ∀ whole, isTrue e X.env whole = (do let v ← whole; standAt e.pos; holding [v] (truthy v))) (h : PE X e (tI X.K X.w cl ie)) (hn : ie ≠ .nil) : PE X e (tI X.K X.w cl ie) ∧ PT X e (tTt X.K X.w cl ie) ∧ ie ≠ .nil := ⟨h, s_test h he, hn⟩
theorem lcOf_some {cIt : Bool → Expr → Option E} {cIf : Q.Ctx → List Expr → Option E} {cE : Q.Ctx → Expr → Option E} {elt : Expr} {gs : List Comprehension} {scope : Scope} {ie : E} (h : lcOf c cIt cIf cE elt gs scope = some ie) :
    ∃ tg it ifs ii t ik je, gs = [⟨tg, it, ifs, 0⟩] ∧ ie = .comp je t ii ik ∧ blkOk c.N c.sc scope (namesT 8 tg) = true ∧ cIt (isTupE tg) it = some ii ∧ compT (c.blk scope) 8 tg = some t ∧ cIf (c.blk scope) ifs = some ik ∧ cE (c.blk scope) elt = some je := by
  unfold lcOf at h
  split at h
  · split at h
    · rename_i hb
      split at h
      · rename_i h1 h2 h3 h4
        cases h
        exact ⟨_, _, _, _, _, _, _, rfl, rfl, hb, h1, h2, h3, h4⟩
      · cases h
    · cases h
  · cases h
theorem isNone_eq {e : Expr} (h : isNone e = true) : ∃ j p, e = .Constant .none j p := by
  unfold isNone at h
  split at h
  · exact ⟨_, _, rfl⟩
  · cases h
theorem o_isN : OpR X (compareOp .Is) (rBin X.K X.w fun x y => bR (cmpv .isN x y)) := by
  rintro pins s σ H x y v u Q I rx ry ⟨N, va, vb, r, hN, ra, rb, e, q⟩
  unfold bR at e
  dsimp only at e
  split at e
  · rename_i k hk
    cases e
    simp only [cmpv] at hk
    split at hk
    · cases hk
      have hy := rb
      simp only [Rep] at hy
      subst hy
      refine op_isN pins s σ H x _ v u Q I rx ry ⟨rfl, q _ _ (.flat ?_)⟩
      cases va with
      | none => have := ra; simp only [Rep] at this; subst this; simp [Rep]
      | bool b => have := ra.bool; subst this; simp [Rep]
      | int b => have := ra.int; subst this; simp [Rep]
      | str b => have := ra.str; subst this; simp [Rep]
      | tup l => obtain ⟨a, xs, rfl, _⟩ := ra.tup; simp [Rep]
      | lst l => obtain ⟨a, xs, rfl, _⟩ := ra.lst; simp [Rep]
      | scr l => obtain ⟨a, xs, rfl, _⟩ := ra.scr; simp [Rep]
      | dict ks vs => obtain ⟨a, xs, rfl, _⟩ := ra.dict; simp [Rep]
      | set l => have := ra; simp only [Rep] at this; obtain ⟨a, rfl, _⟩ := this; simp [Rep]
    · cases hk
  · cases e
theorem o_notN : OpR X (compareOp .IsNot) (rBin X.K X.w fun x y => bR (cmpv .notN x y)) := by
  rintro pins s σ H x y v u Q I rx ry ⟨N, va, vb, r, hN, ra, rb, e, q⟩
  unfold bR at e
  dsimp only at e
  split at e
  · rename_i k hk
    cases e
    simp only [cmpv] at hk
    split at hk
    · cases hk
      have hy := rb
      simp only [Rep] at hy
      subst hy
      refine op_notN pins s σ H x _ v u Q I rx ry ⟨rfl, q _ _ (.flat ?_)⟩
      cases va with
      | none => have := ra; simp only [Rep] at this; subst this; simp [Rep]
      | bool b => have := ra.bool; subst this; simp [Rep]
      | int b => have := ra.int; subst this; simp [Rep]
      | str b => have := ra.str; subst this; simp [Rep]
      | tup l => obtain ⟨a, xs, rfl, _⟩ := ra.tup; simp [Rep]
      | lst l => obtain ⟨a, xs, rfl, _⟩ := ra.lst; simp [Rep]
      | scr l => obtain ⟨a, xs, rfl, _⟩ := ra.scr; simp [Rep]
      | dict ks vs => obtain ⟨a, xs, rfl, _⟩ := ra.dict; simp [Rep]
      | set l => have := ra; simp only [Rep] at this; obtain ⟨a, rfl, _⟩ := this; simp [Rep]
    · cases hk
  · cases e
theorem s_compE {e : Expr} {ie : E} (g : Good c X cl) (all : ∀ c X, Good c X cl → GAll n c X cl) (h : compE c (n + 1) e = some ie) : PE X e (tI X.K X.w cl ie) ∧ PT X e (tTt X.K X.w cl ie) ∧ ie ≠ .nil := by
  have ga := all c X g
  have ih := ga.e
  unfold compE at h
  split at h
  · rename_i x p
    refine plain_test (fun _ => rfl) ?_ ?_
    · split at h
      · rename_i hi; cases h; exact s_var (g.var hi p)
      · split at h
        · rename_i hg
          split at h
          · rename_i hv; cases h; exact g.const hg hv p
          · cases h
        · cases h
    · rintro rfl
      split at h
      · cases h
      · split at h
        · split at h <;> cases h
        · cases h
  · split at h
    · rename_i hv; cases h; exact plain_test (fun _ => rfl) (const_rep hv) (by simp)
    · cases h
  · split at h
    · rename_i h1 h2 h3
      cases h
      exact plain_test (fun _ => rfl) (s_bin (o_bin h1) (ih _ _ h2).1 (ih _ _ h3).1) (by simp)
    · cases h
  · split at h
    · rename_i h1; cases h; exact plain_test (fun _ => rfl) (s_neg (ih _ _ h1).1) (by simp)
    · cases h
  · split at h
    · rename_i h1; cases h; exact ⟨s_notV (ih _ _ h1).1, s_not (ih _ _ h1).2.1, by simp⟩
    · cases h
  · obtain ⟨q1, q2, q3⟩ := ga.and _ _ _ h
    exact ⟨q1, q2.pt, q3⟩
  · split at h
    · rename_i a b
      split at h
      · split at h
        · rename_i h1 h2
          cases h
          exact ⟨s_orL (ih _ _ h1).1 (one_or (ih _ _ h2).1), orL_test, by simp⟩
        · cases h
      · obtain ⟨q1, q2, q3⟩ := ga.or _ _ _ h
        exact ⟨q1, q2.pt, q3⟩
    · obtain ⟨q1, q2, q3⟩ := ga.or _ _ _ h
      exact ⟨q1, q2.pt, q3⟩
  · split at h
    · rename_i h1 h2 h3
      cases h
      exact ⟨s_ite (ih _ _ h1).2.1 (ih _ _ h2).1 (ih _ _ h3).1, pt_if (ih _ _ h1).2.1 (ih _ _ h2).2.1 (ih _ _ h3).2.1, by simp⟩
    · cases h
  · split at h
    · split at h
      · rename_i hn
        split at h
        · rename_i h1
          cases h
          obtain ⟨j, p, rfl⟩ := isNone_eq hn
          have hr := s_const (X := X) (cl := cl) (v := .none) (pe_non (j := j) (pos := p)) (fun _ _ => by simp [Rep])
          exact ⟨s_cmp o_isN (ih _ _ h1).1 hr rfl, s_cmpT o_isN (ih _ _ h1).1 hr rfl, by simp⟩
        · cases h
      · cases h
    · split at h
      · rename_i hn
        split at h
        · rename_i h1
          cases h
          obtain ⟨j, p, rfl⟩ := isNone_eq hn
          have hr := s_const (X := X) (cl := cl) (v := .none) (pe_non (j := j) (pos := p)) (fun _ _ => by simp [Rep])
          exact ⟨s_cmp o_notN (ih _ _ h1).1 hr rfl, s_cmpT o_notN (ih _ _ h1).1 hr rfl, by simp⟩
        · cases h
      · cases h
    · exact ga.inn false _ _ _ _ h
    · exact ga.inn true _ _ _ _ h
    · split at h
      · rename_i h1 h2 h3
        cases h
        exact ⟨s_cmp (o_cmp h1 g.hu) (ih _ _ h2).1 (ih _ _ h3).1 (nomarks (compE_ns h3).2.1), s_cmpT (o_cmp h1 g.hu) (ih _ _ h2).1 (ih _ _ h3).1 (nomarks (compE_ns h3).2.1), by simp⟩
      · cases h
  · split at h
    · rename_i h1 h2 h3 h4 h5
      cases h
      have hm := fun op => nomarks (op := op) (compE_ns h5).2.1
      have hr1 := pe_chain (pos := ‹Pos›) (o_cmp h1 g.hu) (o_cmp h2 g.hu) (ih _ _ h3).1 (ih _ _ h4).1 (ih _ _ h5).1 (hm _)
      have hr2 := pt_chain (pos := ‹Pos›) (o_cmp h1 g.hu) (o_cmp h2 g.hu) (ih _ _ h3).1 (ih _ _ h4).1 (ih _ _ h5).1 (hm _)
      exact ⟨hr1.weak fun σ H Q hh => s_chainR hh, hr2.weak fun σ H Q hh => s_chainR (tTt.val hh), by simp⟩
    · cases h
  · split at h
    · rename_i h1; cases h; exact plain_test (fun _ => rfl) (s_tup (ga.a _ _ h1).1) (by simp)
    · cases h
  · split at h
    · rename_i h1; cases h; exact plain_test (fun _ => rfl) (s_lst (ga.a _ _ h1).1) (by simp)
    · cases h
  · split at h
    · rename_i h15
      split at h
      · rename_i h1; cases h
        obtain ⟨trs, hp⟩ := ga.d _ _ _ h1
        refine plain_test (fun _ => rfl) ?_ (by simp)
        cases hp with
        | nil => exact s_dict0
        | cons hk hv hr => exact s_dict (.cons hk hv hr) (by simp) h15
      · cases h
    · cases h
  · split at h
    · rename_i h1; cases h; exact plain_test (fun _ => rfl) (s_rev (ih _ _ h1).1) (by simp)
    · cases h
  · split at h
    · rename_i h1 h2 h3; cases h; exact plain_test (fun _ => rfl) (s_slice (ih _ _ h1).1 (ga.o _ _ h2) (ga.o _ _ h3)) (by simp)
    · cases h
  · cases h
  · split at h
    · rename_i hi
      split at h
      · rename_i h1; cases h; exact plain_test (fun _ => rfl) (s_idxv g.hu (g.var hi _) (ih _ _ h1).1 (plainIx (compE_ns h1).1)) (by simp)
      · cases h
    · split at h
      · rename_i hg
        split at h
        · rename_i hv h1; cases h; exact plain_test (fun _ => rfl) (s_idx g.hu (g.const hg hv _) (ih _ _ h1).1 (plainIx (compE_ns h1).1)) (by simp)
        · cases h
      · cases h
  · split at h
    · rename_i h1 h2; cases h; exact plain_test (fun _ => rfl) (s_idx g.hu (ih _ _ h1).1 (ih _ _ h2).1 (plainIx (compE_ns h2).1)) (by simp)
    · cases h
  · obtain ⟨tg, it, ifs, ii, t, ik, je, rfl, rfl, hb, h1, h2, h3, h4⟩ := lcOf_some h
    exact plain_test (fun _ => rfl) (s_lc g all hb h1 h2 h3 h4) (by simp)
  · rename_i x p1 args kws pos
    obtain ⟨q1, q2⟩ := ga.call _ p1 _ _ pos _ h
    exact plain_test (fun _ => rfl) q1 q2
  · split at h
    · rename_i hp
      simp only [Bool.and_eq_true, decide_eq_true_eq] at hp
      obtain ⟨q1, q2⟩ := ga.meth _ _ _ _ _ _ hp.1.1.1 hp.1.1.2 hp.1.2 h
      exact plain_test (fun _ => rfl) q1 q2
    · cases h
  · cases h
theorem all_ok (cl : Cl) : ∀ (n : Nat) (c : Ctx) (X : Cx), Good c X cl → GAll n c X cl := by
  intro n
  induction n with
  | zero =>
    intro c X g
    refine ⟨?_, ?_, ?_, ?_, ?_, ?_, ?_, ?_, ?_, ?_, ?_, ?_⟩
    · intro e ie h; simp [compE] at h
    · intro es ie pos h; simp [compAnd] at h
    · intro es ie pos h; simp [compOr] at h
    · intro k a b ie pos h; simp [compIn] at h
    · intro es ie h; simp [compA] at h
    · intro ks vs ia h; simp [compD] at h
    · intro o io h; simp [compO] at h
    · intro es ie h; simp [compIf] at h
    · intro tg e ie h; simp [compIt] at h
    · intro e ie h; simp [compLi] at h
    · intro x p args kws pos ie h; simp [compCall] at h
    · intro r m ap args pos ie h1 h2 h3 h; simp [compMeth] at h
  | succ n all =>
    intro c X g
    have ga := all c X g
    have ge : GE (n + 1) c X cl := fun e ie h => s_compE g all h
    exact ⟨ge, fun es ie pos h => s_and' ga.e ga.and h, fun es ie pos h => s_or' ga.e ga.or h, fun k a b ie pos h => s_in g ga.e h, fun es ie h => s_args g ga.e ga.a h, fun ks vs ia h => s_prs ga.e ga.d h, fun o io h => s_opt ga.e h,
      fun es ie h => s_ifs ga.e h, fun tg e ie h => s_it g ga.e h, fun e ie h hp => s_li g ga.e h hp, fun x p args kws pos ie h => s_call' g ga.e ga.a ga.li h, fun r m ap args pos ie h1 h2 h3 h => s_meth g ga.e h1 h2 h3 h⟩
end
end Q

end
section
set_option Elab.async false
set_option linter.all false
set_option maxRecDepth 100000
set_option maxHeartbeats 4000000
/-! Q: statements. -/
namespace Q
open PySem PySem.Spec PyProof.Rows L2
def EndOk (K : PySem.W.Frag) (w : World) (Mo : AP1) (L : Option Addr) (own : Ow) (H : Hp) (fl : Flow) (env' : Env) (D : Ends) : Prop := match fl with
  | .nx => ∀ σ' H' own', RS K w Mo L own' H' σ' env' → Keep Mo own H own' H' [] → D.nx σ' H'
  | .brk => ∀ σ' H' own', RS K w Mo L own' H' σ' env' → Keep Mo own H own' H' [] → D.bk σ' H'
  | .ct => ∀ σ' H' own', RS K w Mo L own' H' σ' env' → Keep Mo own H own' H' [] → D.ct σ' H'
  | .ret r => ∀ σ' H' own' A x, RS K w (ad Mo A) L own' H' σ' env' → Keep Mo own H own' H' A → (∀ a ∈ A, ¬ Mo a) → RR K w (NN (ad Mo A) own') H' r x A → D.rt x H'
def tS (K : PySem.W.Frag) (w : World) (cl : Cl) (s : S) : TS := fun D σ H => ∃ Mo L own env fl env', RS K w Mo L own H σ env ∧ ex cl s env = some (fl, env') ∧ EndOk K w Mo L own H fl env' D
section
variable {K : PySem.W.Frag} {w : World} {Mo Mo' : AP1} {L : Option Addr} {own own' own1 own2 : Ow} {H H' H1 H2 : Hp} {σ σ' : L2.St} {env env' env1 env2 : Env} {A A1 A2 : List Addr} {r : Res} {x : V} {fl : Flow} {D : Ends}
theorem Keep.t0 (k : Keep Mo own H own1 H1 []) (q : Keep Mo own1 H1 own2 H2 A) : Keep Mo own H own2 H2 A := by
  have := k.trans (fun _ z => z) q
  rwa [List.nil_append] at this
/-- behind a step -/
theorem EndOk.later (k : Keep Mo own H own1 H1 []) (h : EndOk K w Mo L own H fl env' D) : EndOk K w Mo L own1 H1 fl env' D := by
  cases fl with
  | nx => exact fun σ' H' own' r q => h σ' H' own' r (k.t0 q)
  | brk => exact fun σ' H' own' r q => h σ' H' own' r (k.t0 q)
  | ct => exact fun σ' H' own' r q => h σ' H' own' r (k.t0 q)
  | ret r => exact fun σ' H' own' A x rs q nm rr => h σ' H' own' A x rs (k.t0 q) nm rr
theorem EndOk.mono {D' : Ends} (h : EndOk K w Mo L own H fl env' D) (h1 : fl = .nx → ∀ σ' H' own', RS K w Mo L own' H' σ' env' → Keep Mo own H own' H' [] → D.nx σ' H' → D'.nx σ' H')
    (h2 : ∀ σ H, D.bk σ H → D'.bk σ H) (h3 : ∀ σ H, D.ct σ H → D'.ct σ H) (h4 : ∀ x H, D.rt x H → D'.rt x H) : EndOk K w Mo L own H fl env' D' := by
  cases fl with
  | nx => exact fun σ' H' own' r q => h1 rfl σ' H' own' r q (h σ' H' own' r q)
  | brk => exact fun σ' H' own' r q => h2 _ _ (h σ' H' own' r q)
  | ct => exact fun σ' H' own' r q => h3 _ _ (h σ' H' own' r q)
  | ret r => exact fun σ' H' own' A x rs q nm rr => h4 _ _ (h σ' H' own' A x rs q nm rr)
/-- the end is the next statement's -/
theorem Mid.nx (m : Mid K w Mo L own H σ own1 [] H1 env1) (h : EndOk K w Mo L own H .nx env1 D) : D.nx σ H1 := h σ H1 own1 m.rs0 m.kp
end
section
variable {X : Cx} {cl : Cl} {a b : S} {e : E}
theorem r_seq : ∀ D σ H, tS X.K X.w cl (.seq a b) D σ H → tSeq (tS X.K X.w cl a) (tS X.K X.w cl b) D σ H := by
  rintro D σ H ⟨Mo, L, own, env, fl, env', rs, e, q⟩
  simp only [ex] at e
  split at e
  · rename_i env1 e1
    exact ⟨Mo, L, own, env, .nx, env1, rs, e1, fun σ' H' own' rs' k => ⟨Mo, L, own', env1, fl, env', rs', e, q.later k⟩⟩
  · rename_i r hr
    cases fl with
    | nx => exact absurd e (hr _)
    | brk => exact ⟨Mo, L, own, env, .brk, env', rs, e, q⟩
    | ct => exact ⟨Mo, L, own, env, .ct, env', rs, e, q⟩
    | ret r => exact ⟨Mo, L, own, env, .ret r, env', rs, e, q⟩
theorem r_skip : ∀ D σ H, tS X.K X.w cl .skip D σ H → tNext D σ H := by
  rintro D σ H ⟨Mo, L, own, env, fl, env', rs, e, q⟩
  simp only [ex, Option.some.injEq, Prod.mk.injEq] at e
  obtain ⟨rfl, rfl⟩ := e
  exact q σ H own rs .refl
theorem r_brk : ∀ D σ H, tS X.K X.w cl .brk D σ H → tBreak D σ H := by
  rintro D σ H ⟨Mo, L, own, env, fl, env', rs, e, q⟩
  simp only [ex, Option.some.injEq, Prod.mk.injEq] at e
  obtain ⟨rfl, rfl⟩ := e
  exact q σ H own rs .refl
theorem r_cont : ∀ D σ H, tS X.K X.w cl .cont D σ H → tCont D σ H := by
  rintro D σ H ⟨Mo, L, own, env, fl, env', rs, e, q⟩
  simp only [ex, Option.some.injEq, Prod.mk.injEq] at e
  obtain ⟨rfl, rfl⟩ := e
  exact q σ H own rs .refl
theorem r_fail : ∀ D σ H, tS X.K X.w cl .fail D σ H → tNever D σ H := by
  rintro D σ H ⟨Mo, L, own, env, fl, env', rs, e, q⟩
  cases e
theorem r_expr : ∀ D σ H, tS X.K X.w cl (.expr e) D σ H → tDrop (tI X.K X.w cl e) D σ H := by
  rintro D σ H ⟨Mo, L, own, env, fl, env', rs, ee, q⟩
  simp only [ex] at ee
  split at ee
  · rename_i r env1 e1
    cases ee
    refine ⟨Mo, L, own, env, r, env', rs, e1, fun x H1 p => ?_⟩
    obtain ⟨own1, m, h⟩ := p.mid
    exact m.nx q
  · cases ee
theorem r_ifS {c : E} : ∀ D σ H, tS X.K X.w cl (.ite c a b) D σ H → tIfS (tTt X.K X.w cl c) (tS X.K X.w cl a) (tS X.K X.w cl b) D σ H := by
  rintro D σ H ⟨Mo, L, own, env, fl, env', rs, ee, q⟩
  simp only [ex] at ee
  split at ee
  · rename_i env1 e1
    refine .go rs e1 fun H' own' m => ?_
    simp only [if_true]
    exact ⟨Mo, L, own', env1, fl, env', m.rs0, ee, q.later m.kp⟩
  · rename_i env1 e1
    refine .go rs e1 fun H' own' m => ?_
    simp only [Bool.false_eq_true, if_false]
    exact ⟨Mo, L, own', env1, fl, env', m.rs0, ee, q.later m.kp⟩
  · cases ee
/-- moving an owned slot out -/
theorem RS.move {K : PySem.W.Frag} {w : World} {Mo : AP1} {L : Option Addr} {own : Ow} {H : Hp} {σ : L2.St} {env : Env} (rs : RS K w Mo L own H σ env) {i : Nat} {v : Val} (h : eget env i = some (v, .ow)) :
    ∃ a, σ[i]? = some (some (.ref a)) ∧ Mid K w Mo L own H σ (setO own i none) [a] H (eset env i none) ∧ RR K w (NN (ad Mo [a]) (setO own i none)) H (v, true) (.ref a) [a] := by
  obtain ⟨a, oa, ea, o, _⟩ := rs.ownAt h (by simp)
  have sub : ∀ b, NN (ad Mo [a]) (setO own i none) b → NN Mo own b := by
    rintro b ((z | z) | ⟨j, z⟩)
    · exact .inl z
    · simp at z; subst z; exact .inr ⟨i, oa⟩
    · exact .inr ⟨j, setO_less z⟩
  refine ⟨a, ea, ⟨?_, ⟨fun u o' e n => ⟨⟨o', e, .refl⟩, fun j z => n j (setO_less z)⟩, fun u o' _ e => e, fun u o' e => ⟨o', e⟩, fun b hb => .inr ⟨i, by simp at hb; rw [hb]; exact oa⟩⟩, fun b hb => by simp at hb; subst hb; exact rs.nmo i b oa, fun j b => setO_less⟩, a, rfl, rfl, o.kp (.sub sub) fun _ e => e⟩
  refine rs.change (eget_lt h) (.sub sub) (fun _ _ _ _ _ e => e) rfl (fun _ _ => rfl) (fun b z => ?_) (fun j b hj e z => ?_) (fun _ z => nomatch z) rfl
  · rcases z with z | z
    · exact rs.mos b z
    · simp at z; subst z; exact rs.own_some oa
  · rcases z with z | z
    · exact rs.nmo j b e z
    · simp at z; subst z; exact hj (rs.inj j i b e oa)
/-- what return reads -/
def retE (cl : Cl) (e : E) (env : Env) : Option (Res × Env) := match e with
  | .var i => match eget env i with
    | some (v, .sh) => some ((v, false), env)
    | some (v, .ow) => some ((v, true), eset env i none)
    | _ => none
  | e => ev cl e env
def tI2 (K : PySem.W.Frag) (w : World) (cl : Cl) (e : E) : TE := fun σ H Q => ∃ Mo L own env r env', RS K w Mo L own H σ env ∧ retE cl e env = some (r, env') ∧ ∀ x H', PostE K w Mo L own H σ r env' x H' → Q x H'
theorem ex_ret {env : Env} : ex cl (.ret e) env = match retE cl e env with | some (r, env) => some (.ret r, env) | none => none := by
  cases e
  case var i =>
    simp only [ex, retE]
    cases h : eget env i with
    | none => rfl
    | some s => obtain ⟨v, k⟩ := s; cases k <;> rfl
  all_goals (simp only [ex, retE] <;> rfl)
theorem r_ret : ∀ D σ H, tS X.K X.w cl (.ret e) D σ H → tRet (tI2 X.K X.w cl e) D σ H := by
  rintro D σ H ⟨Mo, L, own, env, fl, env', rs, ee, q⟩
  rw [ex_ret] at ee
  split at ee
  · rename_i r env1 e1
    cases ee
    refine ⟨Mo, L, own, env, r, env', rs, e1, fun x H1 p => ?_⟩
    obtain ⟨own1, A, m, h⟩ := p
    exact q σ H1 own1 A x m.rs m.kp m.nm h
  · cases ee
theorem s_ret2 {ex : Expr} (h : PE X ex (tI X.K X.w cl e)) (hv : ∀ i, e = .var i → PE X ex (tVar i)) : PE X ex (tI2 X.K X.w cl e) := by
  by_cases hi : ∃ i, e = .var i
  · obtain ⟨i, rfl⟩ := hi
    refine (hv i rfl).weak ?_
    rintro σ H Q ⟨Mo, L, own, env, r, env', rs, ee, q⟩
    simp only [retE] at ee
    split at ee
    · rename_i v hs
      cases ee
      have s := rs.slot i
      rw [hs] at s
      obtain ⟨_, y, e1, r1⟩ := s
      exact ⟨y, e1, q _ _ (.plain (.refl rs) r1)⟩
    · rename_i v hs
      cases ee
      obtain ⟨a, ea, m, rr⟩ := rs.move hs
      exact ⟨_, ea, q _ _ ⟨_, _, m, rr⟩⟩
    · cases ee
  · refine h.weak ?_
    rintro σ H Q ⟨Mo, L, own, env, r, env', rs, ee, q⟩
    refine ⟨Mo, L, own, env, r, env', rs, ?_, q⟩
    unfold retE at ee
    split at ee
    · exact absurd ⟨_, rfl⟩ hi
    · exact ee
/-! ### stores -/
theorem RS.eqMo {K : PySem.W.Frag} {w : World} {Mo Mo' : AP1} {L : Option Addr} {own : Ow} {H : Hp} {σ : L2.St} {env : Env} (rs : RS K w Mo L own H σ env) (h : ∀ a, Mo' a ↔ Mo a) : RS K w Mo' L own H σ env := by
  have : Mo' = Mo := by funext a; exact propext (h a)
  rw [this]; exact rs
theorem put_some {env env' : Env} {i : Nat} {r : Res} (h : put env i r = some env') : env' = eset env i (some (r.1, if r.2 then .ow else .sh)) := by
  unfold put at h
  split at h
  · cases h
  · cases h; rfl
/-- a pending result goes into a slot -/
theorem RS.putR {K : PySem.W.Frag} {w : World} {Mo : AP1} {L : Option Addr} {own : Ow} {H : Hp} {σ : L2.St} {env : Env} {A : List Addr} {r : Res} {x : V} {i : Nat} (rs : RS K w (ad Mo A) L own H σ env) (h : RR K w (NN (ad Mo A) own) H r x A) (nm : ∀ a ∈ A, ¬ Mo a) (hi : i < env.length) :
    ∃ own', RS K w Mo L own' H (σ.set i (some x)) (eset env i (some (r.1, if r.2 then .ow else .sh))) ∧ (∀ j a, own' j = some a → own j = some a ∨ a ∈ A) := by
  have hl : (σ.set i (some x))[i]? = some (some x) := by rw [List.getElem?_set_self (by rw [← rs.len]; exact hi)]
  have hσ : ∀ j, j ≠ i → (σ.set i (some x))[j]? = σ[j]? := fun j hj => by rw [List.getElem?_set_ne (Ne.symm hj)]
  obtain ⟨v, f⟩ := r
  cases f with
  | false =>
    obtain ⟨rfl, h⟩ := h
    rw [ad_nil] at rs h
    exact ⟨_, rs.bind hi h, fun j a z => .inl (setO_less z)⟩
  | true =>
    obtain ⟨a, rfl, rfl, o⟩ := h
    have sub : ∀ b, NN Mo (setO own i (some a)) b → NN (ad Mo [a]) own b := by
      rintro b (z | ⟨j, z⟩)
      · exact .inl (.inl z)
      · unfold setO at z
        split at z
        · cases z; exact .inl (.inr (by simp))
        · exact .inr ⟨j, z⟩
    have na : ∀ j, own j ≠ some a := fun j e => rs.nmo j a e (.inr (by simp))
    refine ⟨setO own i (some a), ?_, fun j b z => ?_⟩
    · exact rs.change hi (.sub sub) (fun _ _ _ _ _ e => e) (by simp) hσ (fun b z => rs.mos b (.inl z)) (fun j b _ e z => rs.nmo j b e (.inl z)) (fun b z => by cases z; exact ⟨nm a (by simp), fun j _ => na j⟩) ⟨a, rfl, hl, o.kp (.sub sub) fun _ e => e⟩
    · unfold setO at z
      split at z
      · cases z; exact .inr (by simp)
      · exact .inl z
theorem Keep.put {Mo : AP1} {own0 own own' : Ow} {H0 H : Hp} {A : List Addr} (k : Keep Mo own0 H0 own H A) (h : ∀ j a, own' j = some a → own j = some a ∨ a ∈ A) : Keep Mo own0 H0 own' H [] := by
  refine ⟨fun u o e n => ?_, k.strict, k.there, by simp⟩
  obtain ⟨e1, n1⟩ := k.kept u o e n
  refine ⟨e1, fun j z => ?_⟩
  rcases h j u z with q | q
  · exact n1 j q
  · rcases k.new u q with q2 | ⟨i, q2⟩
    · rw [e] at q2; cases q2
    · exact n i q2
theorem put_lt {K : PySem.W.Frag} {w : World} {Mo : AP1} {L : Option Addr} {own : Ow} {H : Hp} {σ : L2.St} {env : Env} (rs : RS K w Mo L own H σ env) {i : Nat} (h : i < σ.length) : i < env.length := by rw [rs.len]; exact h
theorem r_asg {i : Nat} : ∀ D σ H, i < σ.length → tS X.K X.w cl (.asg i e) D σ H → tAsg (tI X.K X.w cl e) (gName i) D σ H := by
  rintro D σ H hi ⟨Mo, L, own, env, fl, env', rs, ee, q⟩
  simp only [ex] at ee
  split at ee
  · rename_i r env1 e1
    unfold nxt at ee
    split at ee
    · rename_i env2 e2
      cases ee
      refine ⟨Mo, L, own, env, r, env1, rs, e1, fun x H1 p => ?_⟩
      obtain ⟨own1, A, m, h⟩ := p
      obtain ⟨own2, rs2, h2⟩ := m.rs.putR h m.nm (put_lt m.rs hi)
      rw [← put_some e2] at rs2
      exact q _ _ own2 rs2 (m.kp.put h2)
    · cases ee
  · cases ee
theorem r_asgT {t : T} : ∀ D σ H, tS X.K X.w cl (.asgT t e) D σ H → tAsg (tI X.K X.w cl e) (gT X.K X.w t) D σ H := by
  rintro D σ H ⟨Mo, L, own, env, fl, env', rs, ee, q⟩
  simp only [ex] at ee
  split at ee
  · rename_i r env1 e1
    unfold nxt at ee
    split at ee
    · rename_i env2 e2
      cases ee
      refine ⟨Mo, L, own, env, r, env1, rs, e1, fun x H1 p => ?_⟩
      obtain ⟨own1, m, h⟩ := p.mid
      exact ⟨Mo, L, own1, env1, _, r.1, m.rs0, h, e2, fun σ' own' rs' lo _ _ => q σ' H1 own' rs' (m.kp.t0 (Keep.less_own lo))⟩
    · cases ee
  · cases ee
/-- σ with several slots set -/
def setAll (σ : L2.St) : List Nat → List V → L2.St
  | i :: is, x :: xs => setAll (σ.set i (some x)) is xs
  | _, _ => σ
theorem RS.putsR {K : PySem.W.Frag} {w : World} {L : Option Addr} {H : Hp} : ∀ {is : List Nat} {rs : List Res} {xs : List V} {Mo : AP1} {own : Ow} {σ : L2.St} {env env' : Env} {A : List Addr}, RS K w (ad Mo A) L own H σ env → RRs K w (NN (ad Mo A) own) H rs xs A → A.Nodup → (∀ a ∈ A, ¬ Mo a) →
    puts is rs env = some env' → (∀ i ∈ is, i < env.length) → xs.length = is.length ∧ ∃ own', RS K w Mo L own' H (setAll σ is xs) env' ∧ (∀ j a, own' j = some a → own j = some a ∨ a ∈ A)
  | [], [], xs, Mo, own, σ, env, env', A, r, h, nd, nm, e, hi => by
    obtain ⟨rfl, rfl⟩ := h
    cases e
    rw [ad_nil] at r
    exact ⟨rfl, own, r, fun _ _ z => .inl z⟩
  | [], _ :: _, _, _, _, _, _, _, _, _, _, _, _, e, _ => by cases e
  | _ :: _, [], _, _, _, _, _, _, _, _, _, _, _, e, _ => by cases e
  | i :: is, q :: qs, xs, Mo, own, σ, env, env', A, r, h, nd, nm, e, hi => by
    obtain ⟨x, ys, A1, A2, rfl, rfl, h1, h2⟩ := h
    simp only [puts] at e
    split at e
    · rename_i env1 e1
      have c : ∀ a, ad (ad Mo A2) A1 a ↔ ad Mo (A1 ++ A2) a := fun a => by
        simp only [ad, List.mem_append]
        constructor
        · rintro ((z | z) | z)
          · exact .inl z
          · exact .inr (.inr z)
          · exact .inr (.inl z)
        · rintro (z | z | z)
          · exact .inl (.inl z)
          · exact .inr z
          · exact .inl (.inr z)
      have ce : ad (ad Mo A2) A1 = ad Mo (A1 ++ A2) := by funext a; exact propext (c a)
      rw [List.nodup_append] at nd
      obtain ⟨own1, r1, l1⟩ := RS.putR (Mo := ad Mo A2) (A := A1) (by rw [ce]; exact r) (by rw [ce]; exact h1) (fun a ha z => by
        rcases z with z | z
        · exact nm a (by simp [ha]) z
        · exact nd.2.2 a ha a z rfl) (hi i (by simp))
      rw [← put_some e1] at r1
      have sub : ∀ a, NN (ad Mo A2) own1 a → NN (ad Mo (A1 ++ A2)) own a := by
        rintro a ((z | z) | ⟨j, z⟩)
        · exact .inl (.inl z)
        · exact .inl (.inr (by simp [z]))
        · rcases l1 j a z with z | z
          · exact .inr ⟨j, z⟩
          · exact .inl (.inr (by simp [z]))
      have hlen : env1.length = env.length := by rw [put_some e1, eset_len]
      obtain ⟨hl, own2, r2, l2⟩ := RS.putsR (is := is) (rs := qs) (xs := ys) (Mo := Mo) (A := A2) r1 (h2.kp (.sub sub) fun _ _ _ z => z) nd.2.1 (fun a ha => nm a (by simp [ha])) e (fun j hj => by rw [hlen]; exact hi j (by simp [hj]))
      refine ⟨by simp [hl], own2, r2, fun j a z => ?_⟩
      rcases l2 j a z with z | z
      · rcases l1 j a z with z | z
        · exact .inl z
        · exact .inr (by simp [z])
      · exact .inr (by simp [z])
    · cases e
theorem r_par {is : List Nat} (D : Ends) (σ : L2.St) (H : Hp) (hi : ∀ i ∈ is, i < σ.length) (h : tS X.K X.w cl (.par is e) D σ H) : tIs X.K X.w cl e σ H fun vs H1 => vs.length = is.length ∧ D.nx (setAll σ is vs) H1 := by
  obtain ⟨Mo, L, own, env, fl, env', rs, ee, q⟩ := h
  simp only [ex] at ee
  split at ee
  · rename_i l env1 e1
    unfold nxt at ee
    split at ee
    · rename_i env2 e2
      cases ee
      refine ⟨Mo, L, own, env, l, env1, rs, e1, fun xs H1 p => ?_⟩
      obtain ⟨own1, A, m, h, nd⟩ := p
      obtain ⟨hl, own2, rs2, l2⟩ := m.rs.putsR h nd m.nm e2 (fun i z => put_lt m.rs (hi i z))
      exact ⟨hl, q _ _ own2 rs2 (m.kp.put l2)⟩
    · cases ee
  · cases ee
/-- by way of a tuple -/
theorem r_parT {is : List Nat} (hz : is.length ≤ sizeLine) (D : Ends) (σ : L2.St) (H : Hp) (hi : ∀ i ∈ is, i < σ.length) (h : tS X.K X.w cl (.par is e) D σ H) :
    tIs X.K X.w cl e σ H fun vs H1 => vs.length ≤ sizeLine ∧ ∀ p, H1 p = none → ∃ a xs, V.ref p = .ref a ∧ SqT X.K (upd H1 p (.tup vs)) a xs ∧ xs.length = is.length ∧ D.nx (setAll σ is xs) (upd H1 p (.tup vs)) := by
  obtain ⟨Mo, L, own, env, fl, env', rs, ee, q⟩ := h
  simp only [ex] at ee
  split at ee
  · rename_i l env1 e1
    unfold nxt at ee
    split at ee
    · rename_i env2 e2
      cases ee
      refine ⟨Mo, L, own, env, l, env1, rs, e1, fun xs H1 p => ?_⟩
      obtain ⟨own1, A, m, h, nd⟩ := p
      obtain ⟨hl, own2, rs2, l2⟩ := m.rs.putsR h nd m.nm e2 (fun i z => put_lt m.rs (hi i z))
      refine ⟨by rw [hl]; exact hz, fun p hp => ⟨p, xs, rfl, .inl (.inl upd_same), hl, ?_⟩⟩
      have rs3 := rs2.grow0 (H' := upd H1 p (.tup xs)) (upd_keep hp)
      exact q _ _ own2 rs3 ((m.kp.put l2).t0 (Keep.grow (upd_keep hp)))
    · cases ee
  · cases ee
end
end Q

end
section
set_option Elab.async false
set_option linter.all false
set_option maxRecDepth 100000
set_option maxHeartbeats 4000000
/-! Q: statements that change things; loops. -/
namespace Q
open PySem PySem.Spec PyProof.Rows L2
theorem chg_some {env env' : Env} {i : Nat} {f : Val → Option Val} (h : chg env i f = some env') : ∃ v k v', eget env i = some (v, k) ∧ k ≠ .sh ∧ f v = some v' ∧ env' = eset env i (some (v', k)) := by
  unfold chg at h
  split at h
  · cases h
  · rename_i v k hk hs
    split at h
    · rename_i v' e
      cases h
      exact ⟨v, k, v', hs, fun z => hk z, e, rfl⟩
    · cases h
  · cases h
section
variable {X : Cx} {cl : Cl} {a b : S} {e ix : E} {i : Nat}
theorem r_app : ∀ D σ H, tS X.K X.w cl (.app i e) D σ H → tDrop (tBM X.K "list" rAppend (tVar i) (tCons (tI X.K X.w cl e) tNil)) D σ H := by
  rintro D σ H ⟨Mo, L, own, env, fl, env', rs, ee, q⟩
  simp only [ex] at ee
  split at ee
  · rename_i hh
    obtain ⟨l0, k0, hl0⟩ := hasL_some hh
    obtain ⟨y, ey, sv⟩ := rs.slotV hl0
    refine ⟨y, ey, sv.isL, ?_⟩
    split at ee
    · rename_i r env1 e1
      unfold nxt at ee
      split at ee
      · rename_i env2 e2
        cases ee
        refine ⟨Mo, L, own, env, r, env1, rs, e1, fun x H1 p => ?_⟩
        obtain ⟨own1, m, h⟩ := p.mid
        obtain ⟨v, k, v', hs, hk, ev', rfl⟩ := chg_some e2
        obtain ⟨t, ot, et, ow, _⟩ := m.rs0.ownAt hs hk
        rw [ey] at et; cases et
        unfold appV at ev'
        split at ev'
        · rename_i l
          split at ev'
          · rename_i hlt
            cases ev'
            obtain ⟨xs, hx, z, rl⟩ := ow
            refine ⟨t, xs, x, rfl, rfl, hx, by rw [rl.length, sizeL]; exact hlt, ?_⟩
            obtain ⟨rs2, k2⟩ := m.rs0.store (o := .lst (xs ++ [x])) (v' := .lst (l ++ [r.1])) hs hk ot ⟨_, upd_same, by rw [List.length_append, List.length_singleton, sizeL]; omega, (rl.append (RepL.cons h RepL.nil)).kp (rep_off ot)⟩
            exact q _ _ own1 rs2 (m.kp.t0 k2)
          · cases ev'
        · cases ev'
      · cases ee
    · cases ee
  · cases ee
theorem r_ext : ∀ D σ H, tS X.K X.w cl (.ext i e) D σ H → tDrop (tBM X.K "list" rExtend (tVar i) (tCons (tI X.K X.w cl e) tNil)) D σ H := by
  rintro D σ H ⟨Mo, L, own, env, fl, env', rs, ee, q⟩
  simp only [ex] at ee
  split at ee
  · rename_i hh
    obtain ⟨l0, k0, hl0⟩ := hasL_some hh
    obtain ⟨y, ey, sv⟩ := rs.slotV hl0
    refine ⟨y, ey, sv.isL, ?_⟩
    split at ee
    · rename_i mm f env1 e1
      unfold nxt at ee
      split at ee
      · rename_i env2 e2
        cases ee
        refine ⟨Mo, L, own, env, _, env1, rs, e1, fun x H1 p => ?_⟩
        obtain ⟨own1, m, h⟩ := p.mid
        obtain ⟨u, ys, rfl, hu, nu, zu, ru⟩ := h.lst
        obtain ⟨v, k, v', hs, hk, ev', rfl⟩ := chg_some e2
        obtain ⟨t, ot, et, ow, _⟩ := m.rs0.ownAt hs hk
        rw [ey] at et; cases et
        unfold extV at ev'
        split at ev'
        · rename_i l
          split at ev'
          · rename_i hlt
            cases ev'
            obtain ⟨xs, hx, z, rl⟩ := ow
            have hlt : l.length + mm.length ≤ 16777216 := by simpa [okLen] using hlt
            refine ⟨t, u, xs, ys, rfl, rfl, hx, hu, by rw [rl.length, ru.length, sizeL]; exact hlt, ?_⟩
            obtain ⟨rs2, k2⟩ := m.rs0.store (o := .lst (xs ++ ys)) (v' := .lst (l ++ mm)) hs hk ot ⟨_, upd_same, by rw [List.length_append, sizeL]; exact hlt, (rl.append ru).kp (rep_off ot)⟩
            exact q _ _ own1 rs2 (m.kp.t0 k2)
          · cases ev'
        · cases ev'
      · cases ee
    · cases ee
  · cases ee
/-- o[i] = v of an owned list or dict -/
def rSetV (K : PySem.W.Frag) (w : World) : TSet := fun o i v H Q => ∃ N a va vk vv v', o = .ref a ∧ Own K w N H a va ∧ N a ∧ Rep K w N H vk i ∧ Rep K w N H vv v ∧ setV va vk vv = some v' ∧
  ∀ ob, Own K w N (upd H a ob) a v' → Q (upd H a ob)
theorem ixN_eq (n : Nat) (i : Int) : L2.ixN n i = Q.ixN n i := rfl
theorem o_set' (hu : X.A.units + 64 < cLine) : PSet X (rSetV X.K X.w) := by
  rintro pins s σ H o i v ov iv u Q I ro ri rv ⟨N, a, va, vk, vv, v', rfl, ow, na, rk, rvv, e, q⟩
  have kp : ∀ ob, Kp N H N (upd H a ob) := fun ob b u e n => ⟨⟨u, by rw [upd_ne (fun z => n (by rw [z]; exact na))]; exact e, .refl⟩, n⟩
  unfold setV at e
  split at e
  · rename_i l j
    split at e
    · rename_i j' hj
      cases e
      obtain ⟨xs, hx, z, rl⟩ := ow
      have := rk.int; subst this
      refine set_list pins s σ H _ _ v ov iv u Q I ro ri rv ⟨a, xs, j, j', rfl, rfl, hx, by rw [rl.length]; exact hj, q _ ⟨_, upd_same, by rw [List.length_set]; exact z, ?_⟩⟩
      exact (rl.set rvv j').kp (kp _)
    · cases e
  · rename_i ks vs
    split at e
    · rename_i kk hk
      split at e
      · rename_i hlt
        cases e
        obtain ⟨ys, hy, ey, rl⟩ := ow
        obtain ⟨p1, p2⟩ := putK_rep (k := kk) ey rl rvv
        have hl : ys.length = ks.length := by rw [← ey, List.length_map]
        refine set_dict (by omega) pins s σ H _ _ v ov iv u Q I ro ri rv ⟨a, _, rfl, .inl ⟨ys, kk, hy, asKey_kV hk rk, by rw [hl, sizeL]; exact hlt, rfl⟩, q _ ⟨_, upd_same, p1, p2.kp (kp _)⟩⟩
      · cases e
    · cases e
  · cases e
theorem r_seti : ∀ D σ H, tS X.K X.w cl (.seti i ix e) D σ H → tAsg (tI X.K X.w cl e) (gSub (tVar i) (tI X.K X.w cl ix) (rSetV X.K X.w)) D σ H := by
  rintro D σ H ⟨Mo, L, own, env, fl, env', rs, ee, q⟩
  simp only [ex] at ee
  split at ee
  · rename_i r env1 e1
    split at ee
    · rename_i hh
      split at ee
      · rename_i k env2 e2
        unfold nxt at ee
        split at ee
        · rename_i env3 e3
          cases ee
          refine ⟨Mo, L, own, env, r, env1, rs, e1, fun x H1 p => ?_⟩
          obtain ⟨own1, m, h⟩ := p.mid
          obtain ⟨y, ey⟩ := m.rs0.hasx hh
          refine ⟨y, ey, Mo, L, own1, env1, k, env2, m.rs0, e2, fun x2 H2 p2 => ?_⟩
          obtain ⟨own2, m2, h2⟩ := p2.mid
          obtain ⟨v, kf, v', hs, hk, ev', rfl⟩ := chg_some e3
          obtain ⟨t, ot, et, ow, _⟩ := m2.rs0.ownAt hs hk
          rw [ey] at et; cases et
          refine ⟨NN Mo own2, t, v, k.1, r.1, v', rfl, ow, .inr ⟨i, ot⟩, h2, m2.val h, ev', fun ob hob => ?_⟩
          obtain ⟨rs3, k3⟩ := m2.rs0.store (o := ob) hs hk ot hob
          exact q _ _ own2 rs3 ((m.kp.t0 m2.kp).t0 k3)
        · cases ee
      · cases ee
    · cases ee
  · cases ee
theorem r_aug {o : Op} {f : Int → Int → Int} (hf : ∀ x y, binI o x y = some (f x y)) : ∀ D σ H, i < σ.length → tS X.K X.w cl (.aug i o e) D σ H → tAug i (tI X.K X.w cl e) (ipI f) D σ H := by
  rintro D σ H hi ⟨Mo, L, own, env, fl, env', rs, ee, q⟩
  simp only [ex] at ee
  split at ee
  · rename_i x hs
    have s := rs.slot i
    rw [hs] at s
    obtain ⟨_, y, ey, ry⟩ := s
    have := ry.int; subst this
    refine ⟨_, ey, ?_⟩
    split at ee
    · rename_i y2 f2 env1 e1
      rw [hf] at ee
      cases ee
      refine ⟨Mo, L, own, env, _, env1, rs, e1, fun x1 H1 p => ?_⟩
      obtain ⟨own1, m, h⟩ := p.mid
      refine ⟨x, y2, rfl, h.int, ?_⟩
      have r2 := m.rs0.bind (i := i) (v := .int (f x y2)) (x := .int (f x y2)) (put_lt m.rs0 hi) (by simp [Rep])
      exact q _ _ _ r2 (m.kp.t0 (Keep.less_own fun j a => setO_less))
    · cases ee
  · cases ee
/-! ### loops -/
theorem r_while {c : E} : ∀ D σ H, tS X.K X.w cl (.while_ c b) D σ H → tWhile (tTt X.K X.w cl c) (tS X.K X.w cl b) D σ H := by
  rintro D σ H ⟨Mo, L, own, env, fl, env', rs, ee, q⟩
  simp only [ex] at ee
  refine ⟨fun m σ1 H1 => ∃ own1 env1, RS X.K X.w Mo L own1 H1 σ1 env1 ∧ Keep Mo own H own1 H1 [] ∧ whileLoop (fun env => boolR (ev cl c env)) (fun env => ex cl b env) m env1 = some (fl, env'), ⟨1000000000, own, env, rs, .refl, ee⟩, ?_⟩
  rintro m σ1 H1 ⟨own1, env1, rs1, k1, e1⟩
  cases m with
  | zero => cases e1
  | succ m =>
    simp only [whileLoop] at e1
    split at e1
    · cases e1
    · rename_i env2 e2
      cases e1
      refine .go rs1 e2 fun H2 own2 m2 => ?_
      simp only [Bool.false_eq_true, if_false]
      exact q _ _ own2 m2.rs0 (k1.t0 m2.kp)
    · rename_i env2 e2
      refine .go rs1 e2 fun H2 own2 m2 => ?_
      simp only [if_true]
      refine ⟨fun σ' H' => ∃ own1 env1, RS X.K X.w Mo L own1 H' σ' env1 ∧ Keep Mo own H own1 H' [] ∧ whileLoop (fun env => boolR (ev cl c env)) (fun env => ex cl b env) m env1 = some (fl, env'), fun σ' H' h => ⟨m, Nat.lt_succ_self _, h⟩, ?_⟩
      have kk := k1.t0 m2.kp
      split at e1
      · rename_i env3 e3
        exact ⟨Mo, L, own2, env2, _, env3, m2.rs0, e3, fun σ' H' own' r k => ⟨own', env3, r, kk.t0 k, e1⟩⟩
      · rename_i env3 e3
        exact ⟨Mo, L, own2, env2, _, env3, m2.rs0, e3, fun σ' H' own' r k => ⟨own', env3, r, kk.t0 k, e1⟩⟩
      · rename_i env3 e3
        cases e1
        exact ⟨Mo, L, own2, env2, _, env', m2.rs0, e3, fun σ' H' own' r k => q σ' H' own' r (kk.t0 k)⟩
      · rename_i r env3 e3
        cases e1
        exact ⟨Mo, L, own2, env2, _, env', m2.rs0, e3, fun σ' H' own' A x r k nm rr => q σ' H' own' A x r (kk.t0 k) nm rr⟩
      · cases e1
theorem r_for {t : T} {it : E} : ∀ D σ H, tS X.K X.w cl (.for_ t it b) D σ H → tFor (iI X.K X.w cl it) (gT X.K X.w t) (tS X.K X.w cl b) D σ H := by
  rintro D σ H ⟨Mo, L, own, env, fl, env', rs, ee, q⟩
  simp only [ex] at ee
  split at ee
  · rename_i l env0 e0
    refine ⟨Mo, L, own, env, l, env0, rs, e0, fun J H0 own0 hz m0 hJ => ?_⟩
    refine ⟨fun i m σ1 H1 => ∃ own1 env1, RS X.K X.w Mo L own1 H1 σ1 env1 ∧ Keep Mo own0 H0 own1 H1 [] ∧ i ≤ l.length ∧ m = l.length - i ∧ forLoop t (fun env => ex cl b env) (l.drop i) env1 = some (fl, env'),
      ⟨_, own0, env0, m0.rs0, .refl, Nat.zero_le _, rfl, ee⟩, ?_⟩
    rintro i m σ1 H1 ⟨own1, env1, rs1, k1, hi, rfl, e1⟩
    obtain ⟨js, jg⟩ := hJ i _ H1 k1.kp0 fun a z => rs1.nn_some z
    by_cases hlt : i < l.length
    · have hv : l[i]? = some l[i] := List.getElem?_eq_getElem hlt
      obtain ⟨g, hy⟩ := jg _ hv
      rw [List.drop_eq_getElem_cons hlt] at e1
      simp only [forLoop] at e1
      refine .inr ⟨g, fun σ' H' => ∃ own1 env1, RS X.K X.w Mo L own1 H' σ' env1 ∧ Keep Mo own0 H0 own1 H' [] ∧ forLoop t (fun env => ex cl b env) (l.drop (i + 1)) env1 = some (fl, env'),
        fun σ' H' ⟨o, en, q1, q2, q3⟩ => ⟨l.length - (i + 1), by omega, o, en, q1, q2, hlt, rfl, q3⟩, fun x H2 hyl => ?_⟩
      obtain ⟨gr, rx⟩ := hy x H2 hyl
      have rs2 := rs1.grow0 gr
      split at e1
      · cases e1
      · rename_i env2 e2
        refine ⟨Mo, L, own1, env1, env2, _, rs2, rx, e2, fun σ3 own3 rs3 lo _ _ => ?_⟩
        have kk : Keep Mo own0 H0 own3 H2 [] := (k1.t0 (.grow gr)).t0 (Keep.less_own lo)
        split at e1
        · rename_i env3 e3
          exact ⟨Mo, L, own3, env2, _, env3, rs3, e3, fun σ' H' own' r k => ⟨own', env3, r, kk.t0 k, e1⟩⟩
        · rename_i env3 e3
          exact ⟨Mo, L, own3, env2, _, env3, rs3, e3, fun σ' H' own' r k => ⟨own', env3, r, kk.t0 k, e1⟩⟩
        · rename_i env3 e3
          cases e1
          exact ⟨Mo, L, own3, env2, _, env', rs3, e3, fun σ' H' own' r k => q σ' H' own' r ((m0.kp.t0 kk).t0 k)⟩
        · rename_i r env3 e3
          cases e1
          exact ⟨Mo, L, own3, env2, _, env', rs3, e3, fun σ' H' own' A x r k nm rr => q σ' H' own' A x r ((m0.kp.t0 kk).t0 k) nm rr⟩
        · cases e1
    · have e2 : i = l.length := by omega
      subst e2
      rw [List.drop_length] at e1
      simp only [forLoop, Option.some.injEq, Prod.mk.injEq] at e1
      obtain ⟨rfl, rfl⟩ := e1
      exact .inl ⟨js rfl, q _ _ own1 rs1 (m0.kp.t0 k1)⟩
  · cases ee
end
end Q

end
section
set_option Elab.async false
set_option linter.all false
set_option maxRecDepth 100000
set_option maxHeartbeats 4000000
/-! Q: what is compiled reads as it says: statements. -/
namespace Q
open PySem PySem.Spec PyProof.Rows L2
structure GoodS (c : Q.Ctx) (X : Cx) (cl : Cl) : Prop where
  g : Good c X cl
  kind : X.env.scope.kind = .function
  pass : PassesOwn (model X.prog X.w) X.A X.env X.xe
  fn : ∀ x, X.fn x = true
theorem psI {X : Cx} {e : Stmt} {t t' : TS} (h : PS X e t) (k : ∀ D σ H, σ.length = X.N.length → t' D σ H → t D σ H) : PS X e t' := ⟨fun pins s σ H D I q => h.run pins s σ H D I (k D σ H I.len q)⟩
theorem isLoc_loc {sc : Scope} {x : Str} (h : isLoc sc x = true) : Loc sc x := by
  unfold isLoc at h
  split at h
  · exact .inl (by assumption)
  · exact .inr (by assumption)
  · cases h
theorem ixOf_lt {x : Str} {l : List Str} {i : Nat} (h : ixOf x l 0 = some i) : l[i]? = some x ∧ i < l.length := by
  obtain ⟨_, h2⟩ := ixOf_get h
  have h2 : l[i]? = some x := by simpa using h2
  exact ⟨h2, (List.getElem?_eq_some_iff.mp h2).1⟩
section
variable {c : Q.Ctx} {X : Cx} {cl : Cl} {n : Nat}
theorem swaps_none {e : Expr} {l : Nat} {tg : Option Expr} {env : PySem.Env} (h : ∀ a b s p, e ≠ .ListComp a b s p) (h2 : ∀ a b s p, e ≠ .SetComp a b s p) (h3 : ∀ a b d s p, e ≠ .DictComp a b d s p) : swapsWith e tg l env = pure false := by
  unfold swapsWith
  cases e <;> first | rfl | exact absurd rfl (h _ _ _ _) | exact absurd rfl (h2 _ _ _ _) | exact absurd rfl (h3 _ _ _ _ _)
theorem swaps_tup {e : Expr} {l : Nat} {ts : List Expr} {k : Nat} {p : Pos} {env : PySem.Env} : swapsWithSole [.Tuple ts k p] e l env = pure false := by
  show swapsWith e (some (.Tuple ts k p)) l env = pure false
  unfold swapsWith
  cases e <;> rfl
theorem swaps_sub {e : Expr} {l : Nat} {o i : Expr} {p : Pos} {env : PySem.Env} : swapsWithSole [.Subscript o i p] e l env = pure false := by
  show swapsWith e (some (.Subscript o i p)) l env = pure false
  unfold swapsWith
  cases e <;> rfl
theorem stores_sub {e : Expr} {o i : Expr} {p : Pos} {env : PySem.Env} : swappedStores [.Subscript o i p] e env = pure none := rfl
theorem compE_nc {e : Expr} {ie : E} : ∀ {n : Nat}, compE c n e = some ie → (∀ a b s p, e ≠ .SetComp a b s p) ∧ ∀ a b d s p, e ≠ .DictComp a b d s p
  | 0, h => by simp [compE] at h
  | n + 1, h => by
    constructor
    · rintro a b s p rfl; simp [compE] at h
    · rintro a b d s p rfl; simp [compE] at h
/-- x = e -/
theorem s_asg {x : Str} {p pos : Pos} {e : Expr} {ie : E} {i : Nat} (G : GoodS c X cl) (hl : isLoc c.sc x = true) (hi : ixOf x c.N 0 = some i) (h : compE c n e = some ie) : PS X (.Assign [.Name x p] e pos) (tS X.K X.w cl (.asg i ie)) := by
  have g := G.g
  obtain ⟨hx, hlt⟩ := ixOf_lt hi
  have hx' : X.N[i]? = some x := by rw [g.N]; exact hx
  have loc : Loc X.env.scope x := by rw [g.sc]; exact isLoc_loc hl
  have len : ∀ {σ : L2.St}, σ.length = X.N.length → i < σ.length := fun e => by rw [e, g.N]; exact hlt
  have plain : ∀ (hs : swapsWith e (some (.Name x p)) pos.line X.env = pure false), PS X (.Assign [.Name x p] e pos) (tS X.K X.w cl (.asg i ie)) := fun hs =>
    psI (ps_set g.nd hx' loc (all_ok cl n c X g |>.e e ie h).1 hs (.inl (G.fn x))) fun D σ H hσ q => r_asg D σ H (len hσ) q
  by_cases hc : ∃ elt gs scope q, e = .ListComp elt gs scope q
  · obtain ⟨elt, gs, scope, q, rfl⟩ := hc
    have key : swapsWith (.ListComp elt gs scope q) (some (.Name x p)) pos.line X.env = pure (X.env.blockKind == .function && X.env.kindOf x == some .local && p.line == q.line && !(scope.names.any fun (n, k) => n == x && (k == .local || k == .cell))) := rfl
    cases hb : (X.env.blockKind == .function && X.env.kindOf x == some .local && p.line == q.line && !(scope.names.any fun (n, k) => n == x && (k == .local || k == .cell))) with
    | false => exact plain (by rw [key, hb])
    | true =>
      rw [hb] at key
      simp only [Bool.and_eq_true, beq_iff_eq] at hb
      have hyl : X.env.scope.names.lookup x = some .local := hb.1.1.2
      cases n with
      | zero => simp [compE] at h
      | succ n =>
        have h : lcOf c (fun b e => compIt c n b e) (fun c e => compIf c n e) (fun c e => compE c n e) elt gs scope = some ie := by
          have e : compE c (n + 1) (.ListComp elt gs scope q) = lcOf c (fun b e => compIt c n b e) (fun c e => compIf c n e) (fun c e => compE c n e) elt gs scope := by simp only [compE]
          rw [← e]; exact h
        obtain ⟨tg, it, ifs, ii, t, ik, je, rfl, rfl, hb1, h1, h2, h3, h4⟩ := lcOf_some h
        obtain ⟨l, q⟩ := compT_slots (c.blk scope) 8 tg t h2
        obtain ⟨ok, hn⟩ := blkOk_ok hb1 l q
        have all := fun c X g => all_ok cl n c X g
        obtain ⟨pi, ns⟩ := (all c X g).it tg it ii h1
        have e : ((namesT 8 tg).zip (slotsT t)).map (·.2) = slotsT t := zip_snd l
        have ks := ps_setLc (pos := ‹Pos›) (elt := elt) (ifs := ifs) (g := gT X.K X.w t) (tt := tTt X.K X.w cl ik) (te := tI X.K X.w cl je) g.calm g.nd hx' hyl key pi (by rw [g.N, g.sc]; exact ok) (fun s H C cs fp => g.tg h2 hn s H C cs fp)
          (fun s H C cs fp => (all _ _ (g.blk s H C cs fp)).iff ifs ik h3) (fun s H C cs fp => ((all _ _ (g.blk s H C cs fp)).e elt je h4).1) (folded ns)
        rw [e] at ks
        exact psI ks fun D σ H hσ hh => lc_read σ H _ (r_asg D σ H (len hσ) hh)
  · have h1 := compE_nc h
    exact plain (swaps_none (fun a b s q z => hc ⟨a, b, s, q, z⟩) h1.1 h1.2)
/-! ### a, b = x, y -/
/-- the names of plain targets, their slots -/
theorem slotsOf_ok {c : Q.Ctx} : ∀ {ts : List Expr} {is : List Nat}, slotsOf c ts = some is → ts.length = is.length ∧ is.Nodup ∧ (∀ i ∈ is, i < c.N.length) ∧ ∀ (j : Nat) (e : Expr) (i : Nat), ts[j]? = some e → is[j]? = some i → ∃ x p, e = .Name x p ∧ isLoc c.sc x = true ∧ c.N[i]? = some x
  | [], is, h => by
    simp only [slotsOf, Option.some.injEq] at h
    subst h
    exact ⟨rfl, List.nodup_nil, by simp, by simp⟩
  | e :: r, is, h => by
    unfold slotsOf at h
    split at h
    · cases ‹e :: r = []›
    · rename_i x p r' hc
      cases hc
      split at h
      · rename_i hl
        split at h
        · rename_i i l hi hr
          split at h
          · cases h
          · rename_i hni
            cases h
            obtain ⟨h1, h2, h3, h4⟩ := slotsOf_ok hr
            obtain ⟨q1, q2⟩ := ixOf_lt hi
            refine ⟨by simp [h1], List.nodup_cons.mpr ⟨hni, h2⟩, fun j hj => ?_, fun j e' i' e1 e2 => ?_⟩
            · rcases List.mem_cons.mp hj with rfl | hj
              · exact q2
              · exact h3 j hj
            · cases j with
              | zero => simp at e1 e2; subst e1 e2; exact ⟨x, p, rfl, hl, q1⟩
              | succ j => exact h4 j e' i' (by simpa using e1) (by simpa using e2)
        · cases h
      · cases h
    · cases h
/-- plain names as targets, from the left -/
def gNs (is : List Nat) : TGs := fun vs σ H Q => vs.length = is.length ∧ Q (setAll σ is vs) H
theorem pgs_names (G : GoodS c X cl) : ∀ {ts : List Expr} {is : List Nat}, slotsOf c ts = some is → PGs X ts (gNs is) ∧ (assignEach ts X.env).length = ts.length ∧ (assignEach ts X.env).findIdx? (·.1) = none
  | [], is, h => by
    simp only [slotsOf, Option.some.injEq] at h
    subst h
    refine ⟨pgs_nil.weak ?_, rfl, rfl⟩
    rintro v σ H Q ⟨e, q⟩
    cases v with
    | nil => exact ⟨rfl, q⟩
    | cons _ _ => simp at e
  | e :: r, is, h => by
    have g := G.g
    unfold slotsOf at h
    split at h
    · cases ‹e :: r = []›
    · rename_i x p r' hc
      cases hc
      split at h
      · rename_i hl
        split at h
        · rename_i i l hi hr
          split at h
          · cases h
          · cases h
            obtain ⟨q1, q2⟩ := ixOf_lt hi
            obtain ⟨p1, p2, p3⟩ := pgs_names G hr
            have loc : Loc X.env.scope x := by rw [g.sc]; exact isLoc_loc hl
            have ap := assignEach_plain (r := r) (env := X.env) (e := .Name x p) (fun _ _ z => nomatch z)
            refine ⟨(pgs_cons (pg_name (pos := p) g.nd (by rw [g.N]; exact q1) loc (.inl (G.fn x))) p1 (by rw [ap]; rfl)).weak ?_, by rw [ap]; simp [p2], by rw [ap]; simp [List.findIdx?_cons, p3]⟩
            rintro v σ H Q ⟨e, q⟩
            cases v with
            | nil => simp at e
            | cons v vs => exact ⟨v, vs, rfl, by simpa using e, q⟩
        · cases h
      · cases h
    · cases h
/-- how the model stores them -/
theorem swap_cases {ts es : List Expr} {k k2 : Nat} {p p2 : Pos} {env : PySem.Env} (h : parOk ts es = true) : swappedStores [.Tuple ts k p] (.Tuple es k2 p2) env = pure none ∨
    ((ts.length = 2 ∨ ts.length = 3) ∧ ∃ names, (ts.filterMap fun | .Name id pos => if env.kindOf id == some .local && pos.line == (ts.head?.map (·.pos.line)).getD 0 then some id else none | _ => none) = names ∧ names.length = ts.length ∧ swappedStores [.Tuple ts k p] (.Tuple es k2 p2) env = pure (some names)) := by
  unfold parOk at h
  simp only [Bool.and_eq_true, Bool.or_eq_true, decide_eq_true_eq, Bool.not_eq_true'] at h
  obtain ⟨⟨⟨h1, h2⟩, h3⟩, h4⟩ := h
  unfold swappedStores
  simp only
  split
  · exact .inl rfl
  · rename_i hc
    split
    · exact .inl rfl
    · split
      · exact .inl rfl
      · rename_i hn
        split
        · exact .inl rfl
        · rename_i hf
          split
          · rename_i hk
            rcases h4 with h4 | h4
            · exact absurd h4 hf
            · rw [h4] at hk; cases hk
          · refine .inr ⟨?_, _, rfl, ?_, rfl⟩
            · simp only [Bool.or_eq_true, Bool.not_eq_true', bne_iff_ne, ne_eq] at hc
              by_cases h2 : ts.length = 2
              · exact .inl h2
              · by_cases h3 : ts.length = 3
                · exact .inr h3
                · exact absurd (.inl (.inl (by simp [h2, h3]))) hc
            · simp only [Bool.or_eq_true, bne_iff_ne, ne_eq, not_or, Decidable.not_not] at hn
              exact hn.1
theorem fm1 {e : Expr} {x : Str} {q : Pos} {r : List Expr} {l : Nat} {env : PySem.Env} (he : e = .Name x q) (hl : ((e :: r).filterMap fun | .Name id pos => if env.kindOf id == some .local && pos.line == l then some id else none | _ => none).length = (e :: r).length) :
    env.scope.names.lookup x = some .local ∧ ((e :: r).filterMap fun | .Name id pos => if env.kindOf id == some .local && pos.line == l then some id else none | _ => none) = x :: (r.filterMap fun | .Name id pos => if env.kindOf id == some .local && pos.line == l then some id else none | _ => none) ∧
      (r.filterMap fun | .Name id pos => if env.kindOf id == some .local && pos.line == l then some id else none | _ => none).length = r.length := by
  subst he
  rw [List.filterMap_cons] at hl ⊢
  dsimp only at hl ⊢
  cases hb : (env.kindOf x == some .local && q.line == l) with
  | true =>
    rw [hb] at hl
    simp only [if_true, List.length_cons, Nat.add_right_cancel_iff] at hl ⊢
    rw [Bool.and_eq_true, beq_iff_eq] at hb
    exact ⟨hb.1, trivial, hl⟩
  | false =>
    rw [hb] at hl
    simp only [Bool.false_eq_true, if_false, List.length_cons] at hl
    have := List.length_filterMap_le (fun | .Name id pos => if env.kindOf id == some .local && pos.line == l then some id else none | _ => none) r
    omega
theorem s_par {ts es : List Expr} {k k2 : Nat} {p p2 pos : Pos} {is : List Nat} {ia : E} (G : GoodS c X cl) (hs : slotsOf c ts = some is) (ha : compA c n es = some ia) (hp : parOk ts es = true) : PS X (.Assign [.Tuple ts k p] (.Tuple es k2 p2) pos) (tS X.K X.w cl (.par is ia)) := by
  have g := G.g
  obtain ⟨l1, nd, lt, nm⟩ := slotsOf_ok hs
  obtain ⟨pg, p3, p4⟩ := pgs_names G hs
  have pa := ((all_ok cl n c X g).a es ia ha).1
  have len : ∀ {σ : L2.St}, σ.length = X.N.length → ∀ i ∈ is, i < σ.length := fun e i hi => by rw [e, g.N]; exact lt i hi
  have hp0 := hp
  unfold parOk at hp0
  simp only [Bool.and_eq_true, decide_eq_true_eq] at hp0
  rcases swap_cases (k := k) (p := p) (k2 := k2) (p2 := p2) (env := X.env) hp with hw | ⟨h23, names, hf, hl, hw⟩
  · refine psI (ps_asg (pos := pos) (pe_tup (x1 := k2) (pos := p2) pa) (pg_tup (pos := p) (k := k) (n := ts.length) g.calm pg p3 p4) swaps_tup hw rfl) fun D σ H hσ q => ?_
    have hz : is.length ≤ sizeLine := by rw [sizeL]; omega
    have := r_parT hz D σ H (len hσ) q
    show tIs X.K X.w cl ia σ H _
    obtain ⟨Mo, L, own, env, r, env', rs, e, q2⟩ := this
    refine ⟨Mo, L, own, env, r, env', rs, e, fun x H' pp => ?_⟩
    obtain ⟨q3, q4⟩ := q2 x H' pp
    refine ⟨q3, fun a ha => ?_⟩
    obtain ⟨b, xs, e1, e2, e3, e4⟩ := q4 a ha
    exact ⟨b, xs, e1, e2, by rw [e3, l1], e3, e4⟩
  · rcases h23 with h2 | h3
    · match ts, h2, is, l1 with
      | [t1, t2], _, [i1, i2], _ =>
        obtain ⟨x, px, rfl, lx, nx⟩ := nm 0 t1 i1 rfl rfl
        obtain ⟨y, py, rfl, ly, ny⟩ := nm 1 t2 i2 rfl rfl
        rw [← hf] at hl
        obtain ⟨kx, f1, hl2⟩ := fm1 rfl hl
        obtain ⟨ky, f2, _⟩ := fm1 rfl hl2
        rw [f2] at f1
        rw [hf] at f1
        subst f1
        simp only [List.filterMap_nil] at hw
        have hne : i1 ≠ i2 := by
          intro z; subst z; simp at nd
        match es, hp0.1.1.2 with
        | [a, b], _ =>
          refine psI (ps_par (pos := pos) g.calm g.nd (by rw [g.N]; exact nx) (by rw [g.N]; exact ny) hne kx ky pa hw swaps_tup) fun D σ H hσ q => ?_
          have := r_par D σ H (len hσ) q
          obtain ⟨Mo, L, own, env, r, env', rs, e, q2⟩ := this
          refine ⟨Mo, L, own, env, r, env', rs, e, fun xs H' pp => ?_⟩
          obtain ⟨q3, q4⟩ := q2 xs H' pp
          match xs, q3 with
          | [v, w'], _ => exact ⟨v, w', rfl, q4⟩
    · match ts, h3, is, l1 with
      | [t1, t2, t3], _, [i1, i2, i3], _ =>
        obtain ⟨x, px, rfl, lx, nx⟩ := nm 0 t1 i1 rfl rfl
        obtain ⟨y, py, rfl, ly, ny⟩ := nm 1 t2 i2 rfl rfl
        obtain ⟨z, pz, rfl, lz, nz⟩ := nm 2 t3 i3 rfl rfl
        rw [← hf] at hl
        obtain ⟨kx, f1, hl2⟩ := fm1 rfl hl
        obtain ⟨ky, f2, hl3⟩ := fm1 rfl hl2
        obtain ⟨kz, f3, _⟩ := fm1 rfl hl3
        rw [f3] at f2
        rw [f2] at f1
        rw [hf] at f1
        subst f1
        simp only [List.filterMap_nil] at hw
        have h12 : i1 ≠ i2 := by intro z; subst z; simp at nd
        have h13 : i1 ≠ i3 := by intro z; subst z; simp at nd
        have h23 : i2 ≠ i3 := by intro z; subst z; simp at nd
        match es, hp0.1.1.2 with
        | [a, b, d], _ =>
          refine psI (ps_par3 (pos := pos) g.calm g.nd (by rw [g.N]; exact nx) (by rw [g.N]; exact ny) (by rw [g.N]; exact nz) h12 h13 h23 kx ky kz pa hw swaps_tup) fun D σ H hσ q => ?_
          have := r_par D σ H (len hσ) q
          obtain ⟨Mo, L, own, env, r, env', rs, e, q2⟩ := this
          refine ⟨Mo, L, own, env, r, env', rs, e, fun xs H' pp => ?_⟩
          obtain ⟨q3, q4⟩ := q2 xs H' pp
          match xs, q3 with
          | [v, w', u], _ => exact ⟨v, w', u, rfl, q4⟩
/-! ### all statements -/
structure GSt (n : Nat) (c : Q.Ctx) (X : Cx) (cl : Cl) : Prop where
  s : ∀ st is, compS c n st = some is → PS X st (tS X.K X.w cl is)
  ss : ∀ st is, compSs c n st = some is → PSs X st (tS X.K X.w cl is)
theorem psW {X : Cx} {e : Stmt} {t t' : TS} (h : PS X e t) (k : ∀ D σ H, t' D σ H → t D σ H) : PS X e t' := h.weak k
theorem s_app {y m : Str} {p1 ap pos p2 : Pos} {e : Expr} {i : Nat} {ie : E} (G : GoodS c X cl) (hi : slot? c y = some i) (he : compE c n e = some ie) (hl : (ap.endLine == pos.line) = true) (hm : m = "append") :
    PS X (.Expr (.Call (.Attribute (.Name y p1) m ap) [e] [] pos) p2) (tS X.K X.w cl (.app i ie)) := by
  subst hm
  have ns := (compE_ns he).2.2
  have hp : plainA [e] = true := by cases e <;> first | rfl | exact absurd rfl (ns _ _)
  obtain ⟨n1, n2⟩ := plainA_cons (env := X.env) hp
  have hE := ((all_ok cl n c X G.g).e e ie he).1
  exact psW (ps_expr (pe_bm PySem.F.plainAttrs_list PySem.F.slot_list_append PySem.F.type_list_append mt_append (G.g.var hi p1) (pa_cons hE pa_nil n1) (base_ok rfl) (few_ok hp (by simp)) hl n1 (plainA_any n2)) rfl) r_app
theorem s_ext {y m : Str} {p1 ap pos p2 : Pos} {e : Expr} {i : Nat} {ie : E} (G : GoodS c X cl) (hi : slot? c y = some i) (he : compE c n e = some ie) (hl : (ap.endLine == pos.line) = true) (hm : m = "extend") :
    PS X (.Expr (.Call (.Attribute (.Name y p1) m ap) [e] [] pos) p2) (tS X.K X.w cl (.ext i ie)) := by
  subst hm
  have ns := (compE_ns he).2.2
  have hp : plainA [e] = true := by cases e <;> first | rfl | exact absurd rfl (ns _ _)
  obtain ⟨n1, n2⟩ := plainA_cons (env := X.env) hp
  have hE := ((all_ok cl n c X G.g).e e ie he).1
  exact psW (ps_expr (pe_bm PySem.F.plainAttrs_list PySem.F.slot_list_extend PySem.F.type_list_extend mt_extend (G.g.var hi p1) (pa_cons hE pa_nil n1) (base_ok rfl) (few_ok hp (by simp)) hl n1 (plainA_any n2)) rfl) r_ext
theorem assign_sub {o i : Expr} {pos : Pos} {env : PySem.Env} (h : ∀ lo hi st p, i ≠ .Slice lo hi st p) (v : Value) : assign (.Subscript o i pos) env v = (do
      let ov ← holding [v] (eval o env)
      let iv ← holding [v, ov] (eval i env)
      standAt pos
      holding [v, ov, iv] (setItem ov iv v)
      release [v, ov, iv] []) := by
  cases i <;> first | rfl | exact absurd rfl (h _ _ _ _)
theorem s_seti {x : Str} {p p2 pos : Pos} {ix e : Expr} {i : Nat} {ii ie : E} (G : GoodS c X cl) (hi : slot? c x = some i) (hx : compE c n ix = some ii) (he : compE c n e = some ie) : PS X (.Assign [.Subscript (.Name x p) ix p2] e pos) (tS X.K X.w cl (.seti i ii ie)) := by
  have g := G.g
  have hE := ((all_ok cl n c X g).e e ie he).1
  have hI := ((all_ok cl n c X g).e ix ii hx).1
  exact psW (ps_asg hE (pg_sub (G.g.var hi p) hI (o_set' g.hu) (assign_sub (compE_ns hx).1)) swaps_sub stores_sub rfl) r_seti
theorem r_seti2 {ix jx e : E} {i j : Nat} : ∀ D σ H, tS X.K X.w cl (.seti2 i ix j jx e) D σ H → tAsg (tI X.K X.w cl e) (gTup X.K 2 (gCons (gSub (tVar i) (tI X.K X.w cl ix) (rSetV X.K X.w)) (gCons (gSub (tVar j) (tI X.K X.w cl jx) (rSetV X.K X.w)) gNil))) D σ H := by
  rintro D σ H ⟨Mo, L, own, env, fl, env', rs, ee, q⟩
  simp only [ex] at ee
  split at ee
  · rename_i va vb f env1 e1
    split at ee
    · rename_i hh
      split at ee
      · rename_i k env2 e2
        split at ee
        · rename_i env3 e3
          split at ee
          · rename_i hh2
            split at ee
            · rename_i k2 env4 e4
              unfold nxt at ee
              split at ee
              · rename_i env5 e5
                cases ee
                refine ⟨Mo, L, own, env, _, env1, rs, e1, fun x H1 p => ?_⟩
                obtain ⟨own1, m, h⟩ := p.mid
                obtain ⟨t, xs, rfl, ht, zz, rr⟩ := h.tup
                obtain ⟨x1, x2, rfl, r1, r2⟩ := rr.two
                refine ⟨t, [x1, x2], rfl, ht.sq, rfl, x1, [x2], rfl, ?_⟩
                obtain ⟨y, ey⟩ := m.rs0.hasx hh
                refine ⟨y, ey, Mo, L, own1, env1, k, env2, m.rs0, e2, fun z2 H2 p2 => ?_⟩
                obtain ⟨own2, m2, h2⟩ := p2.mid
                obtain ⟨v, kf, v', hs, hk, ev', rfl⟩ := chg_some e3
                obtain ⟨u, ot, et, ow, _⟩ := m2.rs0.ownAt hs hk
                rw [ey] at et; cases et
                refine ⟨NN Mo own2, u, v, k.1, va, v', rfl, ow, .inr ⟨i, ot⟩, h2, m2.val r1, ev', fun ob hob => ?_⟩
                obtain ⟨rs3, k3⟩ := m2.rs0.store (o := ob) hs hk ot hob
                have r2' : Rep X.K X.w (NN Mo own2) (upd H2 u ob) vb x2 := (m2.val r2).kp (rep_off ot)
                refine ⟨x2, [], rfl, ?_⟩
                obtain ⟨y3, ey3⟩ := rs3.hasx hh2
                refine ⟨y3, ey3, Mo, L, own2, _, k2, env4, rs3, e4, fun z4 H4 p4 => ?_⟩
                obtain ⟨own4, m4, h4⟩ := p4.mid
                obtain ⟨v5, kf5, v5', hs5, hk5, ev5, rfl⟩ := chg_some e5
                obtain ⟨u5, ot5, et5, ow5, _⟩ := m4.rs0.ownAt hs5 hk5
                rw [ey3] at et5; cases et5
                refine ⟨NN Mo own4, u5, v5, k2.1, vb, v5', rfl, ow5, .inr ⟨j, ot5⟩, h4, m4.val r2', ev5, fun ob5 hob5 => ?_⟩
                obtain ⟨rs5, k5⟩ := m4.rs0.store (o := ob5) hs5 hk5 ot5 hob5
                exact ⟨rfl, q _ _ own4 rs5 ((((m.kp.t0 m2.kp).t0 k3).t0 m4.kp).t0 k5)⟩
              · cases ee
            · cases ee
          · cases ee
        · cases ee
      · cases ee
    · cases ee
  · cases ee
theorem s_seti2 {x y : Str} {p p2 p3 p4 p5 pos : Pos} {k : Nat} {ix jx e : Expr} {i j : Nat} {ii jj ie : E} (G : GoodS c X cl) (hi : slot? c x = some i) (hx : compE c n ix = some ii) (hj : slot? c y = some j) (hy : compE c n jx = some jj) (he : compE c n e = some ie) :
    PS X (.Assign [.Tuple [.Subscript (.Name x p) ix p2, .Subscript (.Name y p3) jx p4] k p5] e pos) (tS X.K X.w cl (.seti2 i ii j jj ie)) := by
  have g := G.g
  have hE := ((all_ok cl n c X g).e e ie he).1
  have hI := ((all_ok cl n c X g).e ix ii hx).1
  have hJ := ((all_ok cl n c X g).e jx jj hy).1
  have hw : swappedStores [.Tuple [.Subscript (.Name x p) ix p2, .Subscript (.Name y p3) jx p4] k p5] e X.env = pure none := by
    unfold swappedStores
    cases e <;> first | rfl | (simp only []; split <;> first | rfl | (split <;> rfl))
  exact psW (ps_asg hE (pg_tup g.calm (pgs_cons (pg_sub (g.var hi p) hI (o_set' g.hu) (assign_sub (compE_ns hx).1)) (pgs_cons (pg_sub (g.var hj p3) hJ (o_set' g.hu) (assign_sub (compE_ns hy).1)) pgs_nil rfl) rfl) rfl rfl) swaps_tup hw rfl) r_seti2
/-- o[i], the value that stands there -/
theorem g_list : PGet X (rIxL X.K) := by
  intro pins s σ H x y v u Q I rx ry h
  obtain ⟨p, xs, i, z, rfl, rfl, hq, he, q⟩ := h
  cases rx
  obtain ⟨t, rfl⟩ := ry
  obtain ⟨its, r, pl, hz⟩ := I.list hq
  obtain ⟨j, h1, h2, h3, h4, h5⟩ := atI_get he
  obtain ⟨w, ew, rw'⟩ := r.get h2
  have hl := r.length
  have hn := line63
  have fin : EP X pins σ Q w s := ⟨z, H, I, rw', q⟩
  by_cases h0 : 0 ≤ i
  · have hj : i.toNat = j := by
      rw [seqIndex_of h0 h5] at h1
      exact Option.some.inj h1
    exact wpAny_getItem_list pl.isList h0 (by omega) (by rw [hj]; simpa using ew) fin
  · have hj : (i + (its.toArray.size : Int)).toNat = j := by
      rw [seqIndex_neg (by omega) h4] at h1
      rw [List.size_toArray, ← hl]
      exact Option.some.inj h1
    exact wpAny_getItem_list_neg pl.isList (by omega) (by rw [List.size_toArray] <;> omega) (by omega) (by rw [hj]; simpa using ew) fin
theorem g_tup : PGet X (rIxT X.K) := by
  intro pins s σ H x y v u Q I rx ry h
  obtain ⟨p, xs, i, z, rfl, rfl, hq, he, q⟩ := h
  cases rx
  obtain ⟨t, rfl⟩ := ry
  obtain ⟨its, r, pl, hz⟩ := I.tuple hq
  obtain ⟨j, h1, h2, h3, h4, h5⟩ := atI_get he
  obtain ⟨w, ew, rw'⟩ := r.get h2
  have hl := r.length
  have hn := line63
  have fin : EP X pins σ Q w s := ⟨z, H, I, rw', q⟩
  exact getItem_tuple (j := j) pl (by omega) (by omega) (by rw [List.size_toArray, ← hl]; exact h1) (by simpa using ew) fin
theorem g_idxS (hu : X.A.units + 64 < cLine) : PGet X (rIdxS X.K X.w) := by
  rintro pins s σ H x y v u Q I rx ry ⟨N, va, vb, z, ra, rb, ez, q⟩
  unfold idxV at ez
  split at ez
  · obtain ⟨a, xs, rfl, ha, zz, rl⟩ := ra.lst
    have e2 := rb.int; subst e2
    obtain ⟨x, e3, r3⟩ := rep_atI rl ez
    exact g_list pins s σ H _ _ v u Q I rx ry ⟨a, xs, _, x, rfl, rfl, SqL.of ha, e3, q _ r3⟩
  · obtain ⟨a, xs, rfl, ha, zz, rl⟩ := (ra.rep (fun _ e => nomatch e) (fun _ _ e => nomatch e)).scr
    have e2 := rb.int; subst e2
    obtain ⟨x, e3, r3⟩ := rep_atI rl ez
    exact g_list pins s σ H _ _ v u Q I rx ry ⟨a, xs, _, x, rfl, rfl, ha.sq, e3, q _ r3⟩
  · obtain ⟨a, xs, rfl, ha, zz, rl⟩ := (ra.rep (fun _ e => nomatch e) (fun _ _ e => nomatch e)).tup
    have e2 := rb.int; subst e2
    obtain ⟨x, e3, r3⟩ := rep_atI rl ez
    exact g_tup pins s σ H _ _ v u Q I rx ry ⟨a, xs, _, x, rfl, rfl, ha.sq, e3, q _ r3⟩
  · rename_i ks vs
    split at ez
    · rename_i kk hk
      obtain ⟨a, ys, rfl, ha, ey, rl⟩ := ra.dict
      have ex := asKey_kV hk rb
      subst ex
      obtain ⟨x, e1, r1⟩ := (look_valV kk ey rl).1 z ez
      have g : DGet H a (kV kk) (some x) := .inl ⟨ys, kk, ha, rfl, e1.symm⟩
      obtain rfl : v = Value.ref a := rx
      exact d_getItem (by omega) I g ry fun w' s' I' rw' => ⟨x, H, I', rw', q _ r1⟩
    · cases ez
  · cases ez
theorem r_augi {ix e : E} {i : Nat} {o : Op} {f : Int → Int → Int} (hf : ∀ x y, binI o x y = some (f x y)) : ∀ D σ H, tS X.K X.w cl (.augi i ix o e) D σ H → tAugS (tVar i) (tI X.K X.w cl ix) (tI X.K X.w cl e) (rIdxS X.K X.w) (ipI f) (rSetV X.K X.w) D σ H := by
  rintro D σ H ⟨Mo, L, own, env, fl, env', rs, ee, q⟩
  simp only [ex] at ee
  split at ee
  · rename_i hh
    obtain ⟨x, ex⟩ := rs.hasx hh
    refine ⟨x, ex, ?_⟩
    split at ee
    · rename_i k env1 e1
      refine ⟨Mo, L, own, env, k, env1, rs, e1, fun y H1 p => ?_⟩
      obtain ⟨own1, m, h1⟩ := p.mid
      split at ee
      · rename_i v kf hv
        split at ee
        · rename_i x0 hx0
          obtain ⟨x', ex', sv⟩ := m.rs0.slotV hv
          rw [ex] at ex'; cases ex'
          refine ⟨NN Mo own1, v, k.1, .int x0, sv, h1, hx0, fun x3 r3 => ?_⟩
          have := r3.int; subst this
          split at ee
          · rename_i y0 fy env2 e2
            rw [hf] at ee
            simp only at ee
            refine ⟨Mo, L, own1, env1, _, env2, m.rs0, e2, fun z2 H2 p2 => ?_⟩
            obtain ⟨own2, m2, h2⟩ := p2.mid
            have h2' : Rep X.K X.w (NN Mo own2) H2 (.int y0) z2 := h2
            refine ⟨x0, y0, rfl, h2'.int, ?_⟩
            unfold nxt at ee
            split at ee
            · rename_i env3 e3
              cases ee
              obtain ⟨v1, kf1, v', hs, hk, ev', rfl⟩ := chg_some e3
              obtain ⟨u, ot, et, ow, _⟩ := m2.rs0.ownAt hs hk
              rw [ex] at et; cases et
              refine ⟨NN Mo own2, u, v1, k.1, .int (f x0 y0), v', rfl, ow, .inr ⟨i, ot⟩, m2.val h1, by simp [Rep], ev', fun ob hob => ?_⟩
              obtain ⟨rs3, k3⟩ := m2.rs0.store (o := ob) hs hk ot hob
              exact q _ _ own2 rs3 ((m.kp.t0 m2.kp).t0 k3)
            · cases ee
          · cases ee
        · cases ee
      · cases ee
    · cases ee
  · cases ee
theorem s_augi {x : Str} {p p2 pos : Pos} {ix e : Expr} {i : Nat} {ii ie : E} {op : Operator} {o : Op} (G : GoodS c X cl) (hi : slot? c x = some i) (hx : compE c n ix = some ii) (ho : opAs op = some o) (he : compE c n e = some ie) :
    PS X (.AugAssign (.Subscript (.Name x p) ix p2) op e pos) (tS X.K X.w cl (.augi i ii o ie)) := by
  have g := G.g
  have hE := ((all_ok cl n c X g).e e ie he).1
  have hI := ((all_ok cl n c X g).e ix ii hx).1
  have hns := (compE_ns hx).1
  have ha : ∀ ov iv new, augStore ix ov iv new = (do holding [new, ov, iv] (setItem ov iv new); release [new, ov, iv] []; pure .next) := fun ov iv new => by
    cases ix <;> first | rfl | exact absurd rfl (hns _ _ _ _)
  cases op <;> simp only [opAs, Option.some.injEq, reduceCtorEq] at ho <;> subst ho
  · exact (ps_augS (g.var hi p) hI (g_idxS g.hu) hE ip_add (o_set' g.hu) ha).weak (r_augi (f := fun i j => i + j) fun _ _ => rfl)
  · exact (ps_augS (g.var hi p) hI (g_idxS g.hu) hE ip_sub (o_set' g.hu) ha).weak (r_augi (f := fun i j => i - j) fun _ _ => rfl)
theorem s_aug {x : Str} {p pos : Pos} {e : Expr} {i : Nat} {ie : E} {op : Operator} {o : Op} (G : GoodS c X cl) (hl : isLoc c.sc x = true) (hi : ixOf x c.N 0 = some i) (ho : opAs op = some o) (he : compE c n e = some ie) :
    PS X (.AugAssign (.Name x p) op e pos) (tS X.K X.w cl (.aug i o ie)) := by
  have g := G.g
  obtain ⟨hx, hlt⟩ := ixOf_lt hi
  have hx' : X.N[i]? = some x := by rw [g.N]; exact hx
  have loc : Loc X.env.scope x := by rw [g.sc]; exact isLoc_loc hl
  have hE := ((all_ok cl n c X g).e e ie he).1
  have len : ∀ {σ : L2.St}, σ.length = X.N.length → i < σ.length := fun e => by rw [e, g.N]; exact hlt
  cases op <;> simp only [opAs, Option.some.injEq, reduceCtorEq] at ho <;> subst ho
  · exact psI (ps_aug g.nd hx' loc hE ip_add (.inl (G.fn x))) fun D σ H hσ q => r_aug (f := fun i j => i + j) (fun _ _ => rfl) D σ H (len hσ) q
  · exact psI (ps_aug g.nd hx' loc hE ip_sub (.inl (G.fn x))) fun D σ H hσ q => r_aug (f := fun i j => i - j) (fun _ _ => rfl) D σ H (len hσ) q
theorem s_asgT {tg e : Expr} {pos : Pos} {t : T} {ie : E} (G : GoodS c X cl) (ht : compT c 8 tg = some t) (he : compE c n e = some ie) (hh : ∃ ts k p, tg = .Tuple ts k p) (hnt : ∀ es k p, e ≠ .Tuple es k p) : PS X (.Assign [tg] e pos) (tS X.K X.w cl (.asgT t ie)) := by
  have g := G.g
  obtain ⟨ts, k, p, rfl⟩ := hh
  have hE := ((all_ok cl n c X g).e e ie he).1
  have hw : swappedStores [.Tuple ts k p] e X.env = pure none := by
    unfold swappedStores
    cases e <;> first | rfl | exact absurd rfl (hnt _ _ _)
  exact psW (ps_asg hE (compT_ok g.N g.sc g.nd g.calm 8 _ t ht fun x _ => .inl (G.fn x)) swaps_tup hw rfl) r_asgT
theorem s_ret {e : Expr} {pos : Pos} {ie : E} (G : GoodS c X cl) (he : compE c n e = some ie) (hv : ∀ i, ie = .var i → PE X e (tVar i)) : PS X (.Return (some e) pos) (tS X.K X.w cl (.ret ie)) :=
  psW (ps_ret (s_ret2 ((all_ok cl n c X G.g).e e ie he).1 hv)) r_ret
theorem r_retN : ∀ D σ H, tS X.K X.w cl (.ret (.const .none)) D σ H → tRetN D σ H := by
  rintro D σ H ⟨Mo, L, own, env, fl, env', rs, ee, q⟩
  simp only [ex, ev, Option.some.injEq, Prod.mk.injEq] at ee
  obtain ⟨rfl, rfl⟩ := ee
  exact q σ H own [] .non (by rw [ad_nil]; exact rs) .refl (by simp) ⟨rfl, by simp [Rep]⟩
theorem st_ok (G : GoodS c X cl) : ∀ n, GSt n c X cl := by
  intro n
  induction n with
  | zero => exact ⟨fun st is h => by simp [compS] at h, fun st is h => by simp [compSs] at h⟩
  | succ n ih =>
    have ga := all_ok cl n c X G.g
    refine ⟨fun st is h => ?_, fun st is h => ?_⟩
    · unfold compS at h
      split at h
      · cases h; exact psW ps_pass r_skip
      · cases h; exact psW ps_break r_brk
      · cases h; exact psW ps_continue r_cont
      · cases h; exact psW ps_never r_fail
      · cases h; exact psW ps_retN r_retN
      · split at h
        · rename_i i he
          split at h
          · split at h
            · rename_i hs
              cases h
              exact s_ret G he fun j hj => by cases hj; exact G.g.var hs _
            · cases h
          · cases h
        · rename_i hn he
          cases h
          exact s_ret G he fun j hj => absurd hj (hn j)
        · cases h
      · split at h
        · rename_i h1 h2 h3
          cases h
          exact psW (ps_if (ga.e _ _ h1).2.1 (ih.ss _ _ h2) (ih.ss _ _ h3)) r_ifS
        · cases h
      · split at h
        · rename_i h1 h2
          cases h
          exact psW (ps_while G.pass (ga.e _ _ h1).2.1 (ih.ss _ _ h2)) r_while
        · cases h
      · split at h
        · rename_i h1 h2 h3
          cases h
          obtain ⟨pi, ns⟩ := ga.it _ _ _ h2
          exact psW (ps_for G.pass G.g.calm pi (compT_ok G.g.N G.g.sc G.g.nd G.g.calm 8 _ _ h1 fun x _ => .inl (G.fn x)) (ih.ss _ _ h3) (folded ns)) r_for
        · cases h
      · split at h
        · rename_i hi
          split at h
          · cases h
          · rename_i hl
            rw [Bool.not_eq_true', Bool.not_eq_false] at hl
            split at h
            · rename_i hm
              split at h
              · rename_i h1; cases h; exact s_app G hi h1 hl hm
              · cases h
            · split at h
              · rename_i hm
                split at h
                · rename_i h1; cases h; exact s_ext G hi h1 hl hm
                · cases h
              · cases h
        · cases h
      · split at h
        · rename_i h1; cases h; exact psW (ps_expr (ga.e _ _ h1).1 rfl) r_expr
        · cases h
      · split at h
        · rename_i hl
          split at h
          · rename_i h1 h2 h3; cases h; exact s_aug G hl h1 h2 h3
          · cases h
        · cases h
      · split at h
        · rename_i h1 h2 h3 h4; cases h; exact s_augi G h1 h2 h3 h4
        · cases h
      · split at h
        · rename_i hl
          split at h
          · rename_i h1 h2; cases h; exact s_asg G hl h1 h2
          · cases h
        · cases h
      · split at h
        · rename_i h1 h2 h3; cases h; exact s_seti G h1 h2 h3
        · cases h
      · split at h
        · rename_i h1 h2 h3 h4 h5; cases h; exact s_seti2 G h1 h2 h3 h4 h5
        · cases h
      · split at h
        · rename_i h1 h2
          split at h
          · rename_i hp; cases h; exact s_par G h1 h2 hp
          · cases h
        · cases h
      · rename_i hnt
        split at h
        · rename_i h1 h2
          cases h
          exact s_asgT G h1 h2 ⟨_, _, _, rfl⟩ (fun es k p z => hnt _ _ _ z)
        · cases h
      · cases h
    · unfold compSs at h
      split at h
      · cases h; exact ⟨fun pins s σ H D I q => pss_nil.run pins s σ H D I (r_skip D σ H q)⟩
      · exact pss_one (ih.s _ _ h)
      · split at h
        · rename_i h1 h2
          cases h
          exact (pss_cons (ih.s _ _ h1) (ih.ss _ _ h2)).weak r_seq
        · cases h
end
end Q

end
section
set_option Elab.async false
set_option linter.all false
set_option maxRecDepth 100000
set_option maxHeartbeats 4000000
/-! Q: a def's promise from its compiled body. -/
namespace Q
open PySem PySem.Spec PyProof.Rows L2
/-- a compiled def of the module -/
structure DefC (K : PySem.W.Frag) (mg : Str → Option Value) (fnT : Str → Option (Nat × Bool)) (cstT : Str → Option Val) (x : Str) (io : Bool) (d : Fn) (addr : Addr) (fd : FuncData) : Prop where
  ex : ∃ (st : Stmt) (N ps : List Str) (m : Nat), FunD K x x (defArgs st) (defBody st) (defScope st) [] [] addr fd ∧ mg x = some (.ref addr) ∧ Binds K fd ps [] ∧ C8.scC N ps (defScope st) = true ∧ compSs ⟨N, defScope st, fnT, cstT⟩ m (defBody st) = some d.body ∧ d.np = ps.length ∧ d.ns = N.length ∧ ps.length ≤ N.length
/-- what holds of a def at every level -/
def FnAll (P : Program) (w : World) (K : PySem.W.Frag) (mg : Str → Option Value) (base : Heap) (F : Nat → Option Fn) (x : Str) (f : Nat) (io : Bool) (n : Nat) : Prop := ∃ (addr : Addr) (fd : FuncData) (ps : List Str) (np : Nat),
  FnOk P w K mg base CX0 n addr fd ps (spF K w (clN F n) f io np) ∧ mg x = some (.ref addr) ∧ PySem.W.keepIn K (.ref addr) = true ∧ Binds K fd ps [] ∧ (∀ args r, clN F n f io args = some r → args.length = np)
section
variable {K : PySem.W.Frag} {w : World}
theorem eget_fresh : ∀ (k j : Nat), eget (fresh k) j = none
  | 0, _ => rfl
  | k + 1, 0 => rfl
  | k + 1, j + 1 => eget_fresh k j
theorem eget_app : ∀ (l m : Env) (j : Nat), eget (l ++ m) j = if j < l.length then eget l j else eget m (j - l.length)
  | [], m, j => by simp
  | s :: l, m, 0 => by simp
  | s :: l, m, j + 1 => by
    simp only [List.cons_append, eget, List.length_cons, Nat.add_lt_add_iff_right, Nat.add_sub_add_right]
    exact eget_app l m j
theorem eget_sh : ∀ (l : List Val) (j : Nat), eget (l.map fun v => some (v, Fl.sh)) j = (l[j]?).map fun v => (v, Fl.sh)
  | [], _ => rfl
  | v :: l, 0 => rfl
  | v :: l, j + 1 => eget_sh l j
theorem start_at {N : List Str} {vs : List V} {j : Nat} {x : V} (h : vs[j]? = some x) : (L2.start N vs)[j]? = some (some x) := by
  unfold L2.start
  have hl := (List.getElem?_eq_some_iff.mp h).1
  rw [List.getElem?_append_left (by simpa using hl), List.getElem?_map, h]; rfl
theorem own_lt {lt : Option Addr} {i : Nat} {a : Addr} (h : (fun i => if i = 0 then lt else none : Ow) i = some a) : i = 0 ∧ lt = some a := by
  dsimp only at h
  split at h
  · exact ⟨by assumption, h⟩
  · cases h
/-- the state at the entry -/
theorem entry_rs {N : AP1} {H : Hp} {io : Bool} {lt : Option Addr} {args : List Val} {vs : List V} {d : Fn} {Ns : List Str} (hN : ∀ a, N a → ∃ o, H a = some o) (h : ArgsOk K w N H io lt args vs) (hl : args.length = d.np) (hs : d.ns = Ns.length) (hle : d.np ≤ Ns.length) :
    RS K w (fun a => N a ∧ some a ≠ lt) lt (fun i => if i = 0 then lt else none) H (L2.start Ns vs) (entry d io args) ∧ ∀ a, NN (fun a => N a ∧ some a ≠ lt) (fun i => if i = 0 then lt else none) a ↔ N a := by
  have hlt : ∀ a, lt = some a → N a := by
    intro a e
    unfold ArgsOk at h
    split at h
    · obtain ⟨b, v, rest, xs, e1, hb, _⟩ := h
      rw [e1] at e; cases e; exact hb
    · rw [h.1] at e; cases e
  have nn : ∀ a, NN (fun a => N a ∧ some a ≠ lt) (fun i => if i = 0 then lt else none) a ↔ N a := by
    intro a
    constructor
    · rintro (z | ⟨i, z⟩)
      · exact z.1
      · exact hlt a (own_lt z).2
    · intro z
      by_cases e : lt = some a
      · exact .inr ⟨0, by simpa using e⟩
      · exact .inl ⟨z, fun q => e q.symm⟩
  have nne : NN (fun a => N a ∧ some a ≠ lt) (fun i => if i = 0 then lt else none) = N := by funext a; exact propext (nn a)
  have vl : vs.length = args.length := by
    unfold ArgsOk at h
    split at h
    · obtain ⟨b, v, rest, xs, _, _, rfl, rfl, _, r⟩ := h; simp [r.length]
    · exact h.2.length
  have el : (entry d io args).length = d.np + (d.ns - d.np) := by
    unfold entry
    split
    · simp at hl; simp [fresh]; omega
    · simp [fresh, hl]
  refine ⟨⟨?_, fun i j a e1 e2 => ?_, fun i a e1 z => ?_, fun a z => hN a z.1, fun j => ?_⟩, nn⟩
  · rw [el]; unfold L2.start; simp [vl, hl]; omega
  · rw [(own_lt e1).1, (own_lt e2).1]
  · exact z.2 (own_lt e1).2.symm
  · rw [nne]
    unfold ArgsOk at h
    split at h
    · rename_i hio
      subst hio
      obtain ⟨a, v, rest, xs, e1, hb, rfl, rfl, ow, r⟩ := h
      have ee : entry d true (v :: rest) = some (v, Fl.ln) :: (rest.map (fun v => some (v, Fl.sh)) ++ fresh (d.ns - d.np)) := rfl
      rw [ee]
      cases j with
      | zero => exact ⟨a, by simpa using e1, e1, start_at rfl, ow⟩
      | succ j =>
        simp only [eget]
        rw [eget_app]
        split
        · rename_i hj
          rw [eget_sh]
          simp only [List.length_map] at hj
          have hr : rest[j]? = some rest[j] := List.getElem?_eq_getElem hj
          rw [hr]
          obtain ⟨y, hy, ry⟩ := r.get hr
          exact ⟨by simp, y, start_at (by simpa using hy), ry⟩
        · rw [eget_fresh]; show _ = none; simp
    · rename_i hio
      obtain ⟨rfl, r⟩ := h
      have hio : io = false := by simpa using hio
      subst hio
      have ee : entry d false args = args.map (fun v => some (v, Fl.sh)) ++ fresh (d.ns - d.np) := by
        unfold entry; cases args <;> rfl
      rw [ee, eget_app]
      split
      · rename_i hj
        rw [eget_sh]
        simp only [List.length_map] at hj
        have hr : args[j]? = some args[j] := List.getElem?_eq_getElem hj
        rw [hr]
        obtain ⟨y, hy, ry⟩ := r.get hr
        exact ⟨by simp, y, start_at hy, ry⟩
      · rw [eget_fresh]; show _ = none; simp
/-- the end of a body -/
theorem exit_pf {N : AP1} {H H' : Hp} {io : Bool} {lt : Option Addr} {own' : Ow} {σ' : L2.St} {env' : Env} {A : List Addr} {r : Res} {v' : Val} {x : V} (hN : ∀ a, N a → ∃ o, H a = some o) (hlt : ∀ a, lt = some a → N a) (hio : io = false → lt = none)
    (rs : RS K w (ad (fun a => N a ∧ some a ≠ lt) A) lt own' H' σ' env') (k : Keep (fun a => N a ∧ some a ≠ lt) (fun i => if i = 0 then lt else none) H own' H' A) (rr : RR K w (NN (ad (fun a => N a ∧ some a ≠ lt) A) own') H' r x A) (hl : lent io env' = some v') :
    PF K w N lt H r v' x H' A := by
  have slot0 : ∀ a, lt = some a → own' 0 = some a ∧ Own K w (NN (ad (fun a => N a ∧ some a ≠ lt) A) own') H' a v' := by
    intro a e
    cases io with
    | false => rw [hio rfl] at e; cases e
    | true =>
      unfold lent at hl
      simp only [if_true] at hl
      split at hl
      · rename_i v hs
        cases hl
        have q := rs.slot 0
        rw [hs] at q
        obtain ⟨b, e1, e2, e3, o⟩ := q
        rw [e] at e2; cases e2
        exact ⟨e1, o⟩
      · cases hl
  have nA : ∀ a ∈ A, lt ≠ some a := fun a ha e => rs.nmo 0 a (slot0 a e).1 (.inr ha)
  have sub : ∀ a, ad N A a → NN (ad (fun a => N a ∧ some a ≠ lt) A) own' a := by
    rintro a (z | z)
    · by_cases e : lt = some a
      · exact .inr ⟨0, (slot0 a e).1⟩
      · exact .inl (.inl ⟨z, fun q => e q.symm⟩)
    · exact .inl (.inr z)
  refine ⟨fun u o e n => ?_, fun u o z n e => k.strict u o ⟨z, n⟩ e, k.there, fun a ha => ?_, rr.kp (.sub sub) fun _ _ _ e => e, fun a e => (slot0 a e).2.kp (.sub sub) fun _ e => e⟩
  · exact (k.kept u o e fun i z => n (own_lt z).2.symm).1
  · rcases k.new a ha with z | ⟨i, z⟩
    · exact z
    · exact absurd (own_lt z).2 (nA a ha)
end
theorem def_okE {P : Program} {w : World} {K : PySem.W.Frag} {mg : Str → Option Value} {base : Heap} {F : Nat → Option Fn} {fnT : Str → Option (Nat × Bool)} {cstT : Str → Option Val} {x : Str} {f : Nat} {io : Bool} {d : Fn} {addr : Addr} {fd : FuncData} {n : Nat}
    (hblt : ∀ x ∈ bltNames, mg x = none) (hcst : ∀ x v, cstT x = some v → ∃ u y, mg x = some u ∧ RelV y u ∧ ∀ N H, Rep K w N H v y) (ih : ∀ x f io, fnT x = some (f, io) → FnAll P w K mg base F x f io n) (hF : F f = some d) {st : Stmt} {N ps : List Str} {m : Nat} (D1 : FunD K x x (defArgs st) (defBody st) (defScope st) [] [] addr fd) (hmg : mg x = some (.ref addr)) (hb : Binds K fd ps []) (hsc : C8.scC N ps (defScope st) = true) (hc : compSs ⟨N, defScope st, fnT, cstT⟩ m (defBody st) = some d.body) (hnp : d.np = ps.length) (hns : d.ns = N.length) (hle : ps.length ≤ N.length) :
    FnOk P w K mg base CX0 (n + 1) addr fd ps (spF K w (clN F (n + 1)) f io d.np) ∧ (∀ args r, clN F (n + 1) f io args = some r → args.length = d.np) := by
  have hcl : ∀ args r, clN F (n + 1) f io args = some r → args.length = d.np := by
    intro args r h
    simp only [clN, hF, runF] at h
    split at h
    · assumption
    · cases h
  refine ⟨?_, hcl⟩
  refine D1.ok (C8.fnScope_by hsc) (fun vs H Q E h => by rw [← hnp]; exact h.1) fun cdv A outer s H vs Q E hr hsp => ?_
  have sco := C8.fnScope_by hsc
  have GS : GoodS ⟨N, defScope st, fnT, cstT⟩ (cxOf CX0 P w K mg base N x (defScope st) addr cdv A outer s H E).nox (clN F n) := by
    refine ⟨⟨rfl, rfl, sco.nd, rfl, hr.units, hblt, hcst, fun y g io h => ?_⟩, sco.kind, PassesOwn.never, fun _ => rfl⟩
    obtain ⟨a', fd', ps', np', F', h1, h2, h3, h4⟩ := ih y g io h
    exact ⟨a', fd', ps', n, np', F', hr, h1, h2, h3, h4⟩
  refine ⟨_, ((st_ok GS m).ss _ _ hc).nox, ?_⟩
  obtain ⟨hvl, Nn, lt, args, r, v', hN, hargs, hrun, q⟩ := hsp
  have hal := hcl _ _ hrun
  obtain ⟨rs, nn⟩ := entry_rs (Ns := N) hN hargs hal hns (by rw [hnp]; exact hle)
  have hlt : ∀ a, lt = some a → Nn a := by
    intro a e
    unfold ArgsOk at hargs
    split at hargs
    · obtain ⟨b, v, rest, xs, e1, hb, _⟩ := hargs
      rw [e1] at e; cases e; exact hb
    · rw [hargs.1] at e; cases e
  have hio2 : io = false → lt = none := by
    intro e
    subst e
    unfold ArgsOk at hargs
    simpa using hargs.1
  simp only [clN, hF, runF] at hrun
  rw [if_pos hal] at hrun
  split at hrun
  · rename_i r1 env1 e1
    split at hrun
    · rename_i v1 hv1
      cases hrun
      exact ⟨_, lt, _, _, _, _, rs, e1, fun σ' H' own' A' x' rs' k nm rr => q x' H' A' (exit_pf hN hlt hio2 rs' k rr hv1)⟩
    · cases hrun
  · rename_i env1 e1
    split at hrun
    · rename_i v1 hv1
      cases hrun
      refine ⟨_, lt, _, _, _, _, rs, e1, fun σ' H' own' rs' k => q .non H' [] (exit_pf hN hlt hio2 (by rw [ad_nil]; exact rs') k ⟨rfl, by simp [Rep]⟩ hv1)⟩
    · cases hrun
  · cases hrun
theorem def_ok {P : Program} {w : World} {K : PySem.W.Frag} {mg : Str → Option Value} {base : Heap} {F : Nat → Option Fn} {fnT : Str → Option (Nat × Bool)} {cstT : Str → Option Val} {x : Str} {f : Nat} {io : Bool} {d : Fn} {addr : Addr} {fd : FuncData} {n : Nat}
    (hblt : ∀ x ∈ bltNames, mg x = none) (hcst : ∀ x v, cstT x = some v → ∃ u y, mg x = some u ∧ RelV y u ∧ ∀ N H, Rep K w N H v y) (ih : ∀ x f io, fnT x = some (f, io) → FnAll P w K mg base F x f io n) (hF : F f = some d) (D : DefC K mg fnT cstT x io d addr fd) :
    FnAll P w K mg base F x f io (n + 1) := by
  obtain ⟨st, N, ps, m, D1, hmg, hb, hsc, hc, hnp, hns, hle⟩ := D.ex
  obtain ⟨h1, h2⟩ := def_okE hblt hcst ih hF D1 hmg hb hsc hc hnp hns hle
  exact ⟨addr, fd, ps, d.np, h1, hmg, D1.kp, hb, h2⟩
/-- level 0 -/
theorem def_0 {P : Program} {w : World} {K : PySem.W.Frag} {mg : Str → Option Value} {base : Heap} {F : Nat → Option Fn} {x : Str} {f : Nat} {io : Bool} {addr : Addr} {fd : FuncData} {ps : List Str} (h1 : mg x = some (.ref addr)) (h2 : PySem.W.keepIn K (.ref addr) = true) (hb : Binds K fd ps []) : FnAll P w K mg base F x f io 0 :=
  ⟨addr, fd, ps, ps.length, ⟨fun vs H Q E h => h.1, fun A outer s H args us vs Q E hr he hbt hv hs => by
    obtain ⟨_, N, lt, a, r, v', _, _, h, _⟩ := hs
    cases h⟩, h1, h2, hb, fun args r h => nomatch h⟩
end Q

end
section
set_option Elab.async false
set_option linter.all false
set_option maxRecDepth 100000
/-! Q: a head's facts: defs, built-ins, tuples of the module. -/
namespace QHd
open PySem PySem.Spec PyProof.Rows L2 Q
abbrev Al : Type := He.AlD × Bool
def tupsB (tups : List (Str × List He.Dv)) (K : PySem.W.Frag) : Bool := tups.all fun t => He.tupB K t.1 t.2
def obsG (n : Nat) (fa : List He.Fa) (fn : List He.DefD) (tups : List (Str × List He.Dv)) (g : Addr → Option Obj) : Al := (He.obsD fa fn (He.frG g (He.asD g n)), tupsB tups (He.frG g (He.asD g n)))
def hook (n : Nat) (fa : List He.Fa) (fn : List He.DefD) (tups : List (Str × List He.Dv)) : PySem.W.Hook where
  α := Al
  obs := fun s => obsG n fa fn tups s.heap.get?
  val := fun _ => (He.valD fn, true)
  says := fun _ h => ∃ K : PySem.W.Frag, K.In h ∧ He.SaysD fa fn K ∧ tupsB tups K = true
  of := fun _ _ e => ⟨_, He.frG_in, congrArg Prod.fst e, congrArg Prod.snd e⟩
  keeps := fun _ _ _ ⟨K, hK, c⟩ k => ⟨K, PySem.W.Frag.In.keeps hK k, c⟩
theorem obsG_eq {n : Nat} {fa : List He.Fa} {fn : List He.DefD} {tups : List (Str × List He.Dv)} {g : Addr → Option Obj} {s : Shared} (h : ∀ a, g a = s.heap.get? a) : obsG n fa fn tups g = (hook n fa fn tups).obs s := by
  have e : g = s.heap.get? := funext h
  rw [e] <;> rfl
theorem tupB_kt {K : PySem.W.Frag} {x : Str} {vs : List He.Dv} (h : He.tupB K x vs = true) : KT K (He.ga K x) (vs.map (He.Dv.v K)) := by
  rcases He.tupB_ok h (fun _ => none) with r | r
  · rcases r with r | ⟨o, r⟩ <;> cases r
  · exact r
/-- a call of the law by its value -/
theorem law_sp {K : PySem.W.Frag} {w : World} {F : Nat → Option Fn} {f n : Nat} {r : Bool} (hl : ∀ ns : List Int, ns.length ≤ 63 → ∃ v', clN F n f false [.scr (ns.map .int)] = some ((.bool true, r), v')) (hr : r = false) :
    ∀ (H : Hp) (a : Addr) (ns : List Int), ns.length ≤ 63 → Only H → SqL K H a (ns.map V.int) → spF K w (clN F n) f false 1 [.ref a] H (fun v _ => v = .bl true) fun _ _ _ => False := by
  subst hr
  intro H a ns hn hO hS
  obtain ⟨v', e⟩ := hl ns hn
  refine ⟨rfl, fun _ => False, none, [.scr (ns.map .int)], (.bool true, false), v', fun _ z => z.elim, ⟨rfl, ?_⟩, e, fun x H' A p => ?_⟩
  · simp only [RepL, Rep]
    refine ⟨_, _, rfl, ⟨a, _, rfl, ?_, ?_, RepL.of_ints ns⟩, rfl⟩
    · rcases hS with z | z
      · exact .inl ⟨z, id⟩
      · exact .inr z
    · rw [List.length_map, sizeL]; omega
  · have q := p.res
    unfold RR at q
    simpa [Rep] using q.2
def AllP {α : Type} (p : α → Prop) : List α → Prop
  | [] => True
  | a :: r => p a ∧ AllP p r
theorem AllP.mem {α : Type} {p : α → Prop} : ∀ {l : List α}, AllP p l → ∀ a ∈ l, p a
  | b :: r, h, a, m => by
    rcases List.mem_cons.mp m with rfl | m
    · exact h.1
    · exact AllP.mem h.2 a m
theorem lookup_mem {β : Type} {x : Str} {v : β} : ∀ {l : List (Str × β)}, l.lookup x = some v → (x, v) ∈ l
  | (y, u) :: r, h => by
    rw [List.lookup_cons] at h
    split at h
    · rename_i e
      cases h
      rw [eq_of_beq e]; exact List.mem_cons_self ..
    · exact List.mem_cons_of_mem _ (lookup_mem h)
/-- one def: compiled, or promised by itself -/
def DOk (P : Program) (w : World) (K : PySem.W.Frag) (mg : Str → Option Value) (base : Heap) (F : Nat → Option Fn) (fnT : Str → Option (Nat × Bool)) (csT : Str → Option Val) (q : Str × (Nat × Bool)) : Prop :=
  (∃ d addr fd, F q.2.1 = some d ∧ DefC K mg fnT csT q.1 q.2.2 d addr fd) ∨ ∀ n, FnAll P w K mg base F q.1 q.2.1 q.2.2 n
theorem all_fn {P : Program} {w : World} {K : PySem.W.Frag} {mg : Str → Option Value} {base : Heap} {F : Nat → Option Fn} {fnL : List (Str × (Nat × Bool))} {fnT : Str → Option (Nat × Bool)} {csT : Str → Option Val} (hT : ∀ x, fnT x = fnL.lookup x)
    (hblt : ∀ x ∈ bltNames, mg x = none) (hcst : ∀ x v, csT x = some v → ∃ u y, mg x = some u ∧ RelV y u ∧ ∀ N H, Rep K w N H v y) (D : AllP (DOk P w K mg base F fnT csT) fnL) :
    ∀ n x f io, fnT x = some (f, io) → FnAll P w K mg base F x f io n := by
  intro n
  induction n with
  | zero =>
    intro x f io h
    rw [hT] at h
    rcases AllP.mem D _ (lookup_mem h) with ⟨d, addr, fd, hF, DC⟩ | z
    · obtain ⟨st, N, ps, m, D1, hmg, hb, _⟩ := DC.ex
      exact def_0 hmg D1.kp hb
    · exact z 0
  | succ n ih =>
    intro x f io h
    have h' := h
    rw [hT] at h'
    rcases AllP.mem D _ (lookup_mem h') with ⟨d, addr, fd, hF, DC⟩ | z
    · exact def_ok hblt hcst ih hF DC
    · exact z _
end QHd

end
section
set_option Elab.async false
set_option linter.all false
set_option maxRecDepth 100000
set_option maxHeartbeats 0
namespace Kw
open PySem PySem.Spec PyProof.Rows L2 Q
def top (i : Nat) : Stmt := PySem.Challenge.pw_quickexact_k88_main_how_often_two_make_a.main.body.getD i (.Pass ⟨0, 0, 0, 0⟩)
def ir_least_sum : S := (.ret (.bcall .sum (.cons (.comp (.bin .mul (.var 2) (.var 3)) (.tup (.cons (.name 2) (.cons (.name 3) .nil))) (.zip (.cons (.var 0) (.cons (.var 1) .nil))) (.cmp .lt (.var 2) (.const (.int 0)))) .nil)))
def ir_greatest_sum : S := (.ret (.bcall .sum (.cons (.comp (.bin .mul (.var 2) (.var 3)) (.tup (.cons (.name 2) (.cons (.name 3) .nil))) (.zip (.cons (.var 0) (.cons (.var 1) .nil))) (.cmp .gt (.var 2) (.const (.int 0)))) .nil)))
def ir_step : S := (.seq (.asg 1 (.const (.int 0)))
    (.seq (.for_ (.name 2) (.var 0)
    (.seq (.asg 3 (.bcall .abs (.cons (.var 2) .nil)))
    (.while_ (.cmp .gt (.var 3) (.const (.int 0)))
    (.par [1, 3] (.cons (.var 3) (.cons (.bin .mod (.var 1) (.var 3)) .nil))))))
    (.ret (.var 1))))
def ir_divides : S := (.ret (.ite (.cmp .eq (.var 0) (.const (.int 0))) (.cmp .eq (.var 1) (.const (.int 0))) (.cmp .eq (.bin .mod (.var 1) (.var 0)) (.const (.int 0)))))
def ir_marks_along : S := (.seq (.asg 2 (.lst (.cons (.const (.int 1)) .nil)))
    (.seq (.for_ (.tup (.cons (.name 3) (.cons (.name 4) .nil))) (.zip (.cons (.var 0) (.cons (.var 1) .nil)))
    (.seq (.par [5, 6, 7] (.cons (.idxv 2 (.neg (.const (.int 1)))) (.cons (.var 4) (.cons (.const (.int 1)) .nil))))
    (.seq (.while_ (.cmp .gt (.var 6) (.const (.int 0)))
    (.seq (.asg 8 (.bcall .min2 (.cons (.var 7) (.cons (.var 6) .nil))))
    (.seq (.asg 5 (.bin .bor (.var 5) (.bin .shl (.var 5) (.bin .mul (.bcall .abs (.cons (.var 3) .nil)) (.var 8)))))
    (.par [6, 7] (.cons (.bin .sub (.var 6) (.var 8)) (.cons (.bin .add (.var 7) (.var 7)) .nil))))))
    (.app 2 (.var 5)))))
    (.ret (.var 2))))
def ir_is_marked : S := (.ret (.and (.chain .le .lt (.const (.int 0)) (.var 1) (.mcall .bitlen (.var 0) .nil)) (.cmp .eq (.bin .band (.bin .shr (.var 0) (.var 1)) (.const (.int 1))) (.const (.int 1)))))
def ir_is_sum : S := (.ret (.call 6 (.cons (.idx (.call 5 (.cons (.var 0) (.cons (.var 1) .nil))) (.neg (.const (.int 1)))) (.cons (.bin .sub (.var 2) (.call 1 (.cons (.var 0) (.cons (.var 1) .nil)))) .nil))))
def ir_how_many_counters : S := (.seq (.par [3, 4] (.cons (.call 1 (.cons (.var 0) (.cons (.var 1) .nil))) (.cons (.call 2 (.cons (.var 0) (.cons (.var 1) .nil))) .nil)))
    (.seq (.ite (.not (.chain .le .le (.var 3) (.var 2) (.var 4)))
    (.ret (.const (.int 0)))
    .skip)
    (.seq (.asg 5 (.bin .add (.lst (.cons (.const (.int 1)) .nil)) (.bin .mul (.lst (.cons (.const (.int 0)) .nil)) (.bin .sub (.var 4) (.var 3)))))
    (.seq (.for_ (.tup (.cons (.name 6) (.cons (.name 7) .nil))) (.zip (.cons (.var 0) (.cons (.var 1) .nil)))
    (.seq (.par [8, 9] (.cons (.bcall .abs (.cons (.var 6) .nil)) (.cons (.lst .nil) .nil)))
    (.seq (.for_ (.tup (.cons (.name 10) (.cons (.name 11) .nil))) (.enum (.var 5))
    (.seq (.asg 12 (.ite (.cmp .ge (.var 10) (.var 8)) (.idxv 9 (.bin .sub (.var 10) (.var 8))) (.const (.int 0))))
    (.seq (.asg 13 (.bin .sub (.var 10) (.bin .mul (.var 8) (.bin .add (.var 7) (.const (.int 1))))))
    (.app 9 (.bin .sub (.bin .add (.var 11) (.var 12)) (.ite (.cmp .ge (.var 13) (.const (.int 0))) (.idxv 5 (.var 13)) (.const (.int 0))))))))
    (.asg 5 (.var 9)))))
    (.ret (.idxv 5 (.bin .sub (.var 2) (.var 3))))))))
def ir_check_counter : S := (.ite (.not (.chain .le .lt (.const (.int 0)) (.var 1) (.lenv 0)))
    .fail
    .skip)
def ir_sizes_of : S := (.ret (.bcall .sortedset (.cons (.comp (.bcall .abs (.cons (.var 1) .nil)) (.name 1) (.var 0) (.const (.bool true))) .nil)))
def ir_classes_by : S := (.seq (.par [2, 3, 4] (.cons (.dict (.cons (.const (.int 0)) (.cons (.const (.int 0)) .nil))) (.cons (.dict .nil) (.cons (.lst (.cons (.const (.int 0)) .nil)) .nil))))
    (.seq (.while_ (.cmp .gt (.lenv 4) (.const (.int 0)))
    (.seq (.asg 5 (.popv 4 (.cons (.const (.int 0)) .nil)))
    (.for_ (.name 6) (.ite (.cmp .eq (.idxv 2 (.bin .mod (.var 5) (.var 1))) (.var 5)) (.var 0) (.lst .nil))
    (.seq (.asg 7 (.bin .add (.var 5) (.var 6)))
    (.ite (.cmp .lt (.var 7) (.getv 2 (.cons (.bin .mod (.var 7) (.var 1)) (.cons (.bin .add (.var 7) (.const (.int 1))) .nil))))
    (.seq (.seti2 2 (.bin .mod (.var 7) (.var 1)) 3 (.bin .mod (.var 7) (.var 1)) (.tup (.cons (.var 7) (.cons (.var 6) .nil))))
    (.app 4 (.var 7)))
    .skip)))))
    (.ret (.tup (.cons (.var 2) (.cons (.var 3) .nil))))))
def ir_least_heaps : S := (.seq (.asg 1 (.call 24 (.cons (.var 0) .nil)))
    (.ret (.ite (.cmp .gt (.lenv 1) (.const (.int 0))) (.idx (.call 25 (.cons (.var 1) (.cons (.idxv 1 (.const (.int 0))) .nil))) (.const (.int 0))) (.dict .nil))))
def ir_is_above : S := (.ret (.and (.inv false (.bin .mod (.var 2) (.var 1)) 0) (.cmp .ge (.var 2) (.idxv 0 (.bin .mod (.var 2) (.var 1))))))
def ir_is_heap : S := (.seq (.ite (.or (.cmp .le (.var 1) (.const (.int 0))) (.cmp .eq (.lenv 0) (.const (.int 0))))
    (.ret (.cmp .eq (.var 1) (.const (.int 0))))
    .skip)
    (.ret (.call 27 (.cons (.call 26 (.cons (.var 0) .nil)) (.cons (.idx (.call 24 (.cons (.var 0) .nil)) (.const (.int 0))) (.cons (.var 1) .nil))))))
def ir_least_in_class : S := (.seq (.expr (.call 20 (.cons (.var 0) (.cons (.var 1) .nil))))
    (.seq (.asg 3 (.bcall .abs (.cons (.idxv 0 (.var 1)) .nil)))
    (.ret (.mcall .get (.idx (.call 25 (.cons (.call 24 (.cons (.var 0) .nil)) (.cons (.var 3) .nil))) (.const (.int 0))) (.cons (.bin .mod (.var 2) (.var 3)) .nil)))))
def ir_heap_counts : S := (.seq (.ite (.not (.call 96 (.cons (.var 0) (.cons (.var 1) .nil))))
    (.ret (.const .none))
    .skip)
    (.seq (.asg 3 (.comp (.bcall .abs (.cons (.var 2) .nil)) (.name 2) (.var 0) (.const (.bool true))))
    (.seq (.asg 4 (.bin .mul (.lst (.cons (.const (.int 0)) .nil)) (.lenv 3)))
    (.seq (.ite (.cmp .gt (.var 1) (.const (.int 0)))
    (.seq (.asg 5 (.bcall .min (.cons (.var 3) .nil)))
    (.seq (.asgT (.tup (.cons (.name 6) (.cons (.name 7) .nil))) (.call 25 (.cons (.call 24 (.cons (.var 0) .nil)) (.cons (.var 5) .nil))))
    (.seq (.asg 8 (.idxv 6 (.bin .mod (.var 1) (.var 5))))
    (.seq (.seti 4 (.mcall .index (.var 3) (.cons (.var 5) .nil)) (.bin .fdiv (.bin .sub (.var 1) (.var 8)) (.var 5)))
    (.while_ (.cmp .gt (.var 8) (.const (.int 0)))
    (.seq (.asg 2 (.idxv 7 (.bin .mod (.var 8) (.var 5))))
    (.seq (.augi 4 (.mcall .index (.var 3) (.cons (.var 2) .nil)) .add (.const (.int 1)))
    (.aug 8 .sub (.var 2)))))))))
    .skip)
    (.ret (.tuple (.var 4)))))))
def ir_all_rows : S := (.seq (.asg 3 (.comp (.tup (.cons (.var 4) (.cons (.var 6) .nil))) (.tup (.cons (.name 4) (.cons (.tup (.cons (.name 5) (.cons (.name 6) .nil))) .nil))) (.zip (.cons (.idxv 1 (.const (.int 0))) (.cons (.var 0) .nil))) (.const (.bool true))))
    (.ret (.bin .add (.var 3) (.comp (.tup (.cons (.neg (.var 4)) (.cons (.var 6) .nil))) (.tup (.cons (.name 4) (.cons (.tup (.cons (.name 5) (.cons (.name 6) .nil))) .nil))) (.zip (.cons (.idxv 2 (.const (.int 0))) (.cons (.var 0) .nil))) (.const (.bool true))))))
def ir_equation_of : S := (.seq (.asg 3 (.comp (.tup (.cons (.var 4) (.cons (.var 5) .nil))) (.tup (.cons (.name 4) (.cons (.name 5) .nil))) (.call 57 (.cons (.var 0) (.cons (.var 1) (.cons (.var 2) .nil)))) (.cmp .ne (.var 4) (.const (.int 0)))))
    (.ret (.tup (.cons (.tuple (.comp (.var 4) (.tup (.cons (.name 4) (.cons (.name 5) .nil))) (.var 3) (.const (.bool true)))) (.cons (.tuple (.comp (.var 5) (.tup (.cons (.name 4) (.cons (.name 5) .nil))) (.var 3) (.const (.bool true)))) (.cons (.bin .sub (.idxv 2 (.const (.int 1))) (.idxv 1 (.const (.int 1)))) .nil))))))
def ir_touch : S := (.seq (.asgT (.tup (.cons (.name 3) (.cons (.name 4) (.cons (.name 5) .nil)))) (.call 58 (.cons (.var 0) (.cons (.var 1) (.cons (.var 2) .nil)))))
    (.ret (.call 7 (.cons (.var 3) (.cons (.var 4) (.cons (.var 5) .nil))))))
def ir_how_many_touchings : S := (.seq (.asgT (.tup (.cons (.name 3) (.cons (.name 4) (.cons (.name 5) .nil)))) (.call 58 (.cons (.var 0) (.cons (.var 1) (.cons (.var 2) .nil)))))
    (.seq (.asg 6 (.call 10 (.cons (.var 3) (.cons (.var 4) (.cons (.var 5) .nil)))))
    (.seq (.for_ (.tup (.cons (.name 7) (.cons (.name 8) .nil))) (.call 57 (.cons (.var 0) (.cons (.var 1) (.cons (.var 2) .nil))))
    (.asg 6 (.bin .mul (.var 6) (.ite (.cmp .ne (.var 7) (.const (.int 0))) (.const (.int 1)) (.bin .add (.var 8) (.const (.int 1)))))))
    (.ret (.var 6)))))
def ir_word_for : S := (.seq (.ite (.not (.call 4 (.cons (.call 3 (.cons (.var 0) .nil)) (.cons (.var 2) .nil))))
    (.ret (.const (.str "step")))
    .skip)
    (.seq (.ite (.or (.cmp .eq (.var 2) (.const (.int 0))) (.cmp .gt (.bcall .lenset (.cons (.comp (.cmp .gt (.var 3) (.const (.int 0))) (.name 3) (.var 0) (.const (.bool true))) .nil)) (.const (.int 1))))
    (.ret (.const .none))
    .skip)
    (.seq (.ite (.cmp .ne (.cmp .gt (.var 2) (.const (.int 0))) (.cmp .gt (.idxv 0 (.const (.int 0))) (.const (.int 0))))
    (.ret (.const (.str "sign")))
    .skip)
    (.ret (.ite (.call 27 (.cons (.var 1) (.cons (.idx (.call 24 (.cons (.var 0) .nil)) (.const (.int 0))) (.cons (.bcall .abs (.cons (.var 2) .nil)) .nil)))) (.const .none) (.const (.str "gap")))))))
def ir_why_never : S := (.ret (.call 39 (.cons (.var 0) (.cons (.call 26 (.cons (.var 0) .nil)) (.cons (.var 1) .nil)))))
def ir_comes_at_all : S := (.ret (.cmp .isN (.call 82 (.cons (.var 0) (.cons (.var 1) .nil))) (.const .none)))
def ir__law_box : S := (.seq (.asg 2 (.ite (.cmp .lt (.var 1) (.lenv 0)) (.idxv 0 (.var 1)) (.const (.int 0))))
    (.ret (.lst (.cons (.bin .mul (.bcall .abs (.cons (.var 2) .nil)) (.bcall .int (.cons (.cmp .ge (.bcall .abs (.cons (.var 2) .nil)) (.bin .pow (.const (.int 10)) (.const (.int 18)))) .nil))) (.cons (.bin .add (.bin .add (.bin .mod (.bcall .int (.cons (.var 2) .nil)) (.const (.int 2305843009213693951))) (.bin .mul (.const (.int 39373)) (.var 1))) (.const (.int 11900088))) (.cons (.const (.int 0)) .nil))))))
def ir__law_take : S := (.seq (.ite (.cmp .gt (.idxv 0 (.const (.int 0))) (.const (.int 0)))
    (.seq (.asg 2 (.bin .mod (.bcall .int (.cons (.idxv 0 (.const (.int 0))) .nil)) (.var 1)))
    (.seq (.seti 0 (.const (.int 0)) (.bin .fdiv (.idxv 0 (.const (.int 0))) (.var 1)))
    (.ret (.var 2))))
    .skip)
    (.seq (.seti 0 (.const (.int 2)) (.bin .add (.idxv 0 (.const (.int 2))) (.const (.int 1))))
    (.seq (.asg 3 (.bin .mod (.bcall .int (.cons (.bin .mul (.bin .add (.idxv 0 (.const (.int 1))) (.bin .mul (.const (.int 48271)) (.idxv 0 (.const (.int 2))))) (.bin .add (.const (.int 39373)) (.idxv 0 (.const (.int 2))))) .nil)) (.const (.int 2147483647))))
    (.seq (.asg 4 (.bin .add (.bin .mod (.bcall .int (.cons (.var 3) .nil)) (.const (.int 40009))) (.const (.int 7))))
    (.seq (.asg 5 (.bin .mod (.bcall .int (.cons (.bin .mul (.bin .add (.bin .add (.var 3) (.idxv 0 (.const (.int 2)))) (.bin .fdiv (.idxv 0 (.const (.int 1))) (.const (.int 1000003)))) (.var 4)) .nil)) (.const (.int 2147483629))))
    (.ret (.bin .mod (.bcall .int (.cons (.bin .fdiv (.bin .mod (.bcall .int (.cons (.bin .add (.bin .mul (.var 5) (.const (.int 48271))) (.var 3)) .nil)) (.const (.int 2147483587))) (.const (.int 64))) .nil)) (.var 1))))))))
def ir__law_cells : S := (.seq (.asg 2 (.orV (.list (.slice (.var 0) .nil (.var 1))) (.lst (.cons (.const (.int 0)) .nil))))
    (.seq (.for_ (.tup (.cons (.name 3) (.cons (.name 4) .nil))) (.enum (.slice (.var 0) (.var 1) (.const (.int 63))))
    (.seq (.asg 5 (.bin .mod (.bcall .int (.cons (.var 3) .nil)) (.var 1)))
    (.seti 2 (.var 5) (.bin .add (.idxv 2 (.var 5)) (.bin .mul (.var 4) (.bin .add (.var 3) (.const (.int 2))))))))
    (.ret (.var 2))))
def ir__law_of : S := (.ret (.idxv 1 (.callio 43 0 (.cons (.lenv 1) .nil))))
def ir__law_same : S := (.seq (.ite (.isi (.var 1) [.list, .tuple])
    (.seq (.ite (.or (.cmp .ne (.isi (.var 0) [.list]) (.isi (.var 1) [.list])) (.cmp .ne (.isi (.var 0) [.tuple]) (.isi (.var 1) [.tuple])))
    (.ret (.const (.bool false)))
    .skip)
    (.ret (.and (.cmp .eq (.lenv 0) (.lenv 1)) (.bcall .all (.cons (.comp (.call 46 (.cons (.var 2) (.cons (.var 3) .nil))) (.tup (.cons (.name 2) (.cons (.name 3) .nil))) (.zip (.cons (.var 0) (.cons (.var 1) .nil))) (.const (.bool true))) .nil)))))
    .skip)
    (.seq (.ite (.cmp .isN (.var 1) (.const .none))
    (.ret (.cmp .isN (.var 0) (.const .none)))
    .skip)
    (.seq (.ite (.isi (.var 1) [.bool, .str])
    (.ret (.and (.cmp .eq (.isi (.var 0) [.bool]) (.isi (.var 1) [.bool])) (.and (.cmp .eq (.isi (.var 0) [.str]) (.isi (.var 1) [.str])) (.cmp .eq (.var 0) (.var 1)))))
    .skip)
    (.ret (.and (.isi (.var 0) [.int]) (.and (.not (.isi (.var 0) [.bool])) (.cmp .eq (.var 0) (.var 1))))))))
def ir__law_common : S := (.seq (.asg 1 (.const (.int 0)))
    (.seq (.for_ (.name 2) (.var 0)
    (.seq (.par [3, 4] (.cons (.var 1) (.cons (.bcall .abs (.cons (.var 2) .nil)) .nil)))
    (.seq (.for_ (.name 5) (.range (.cons (.const (.int 200)) .nil))
    (.seq (.ite (.cmp .eq (.var 4) (.const (.int 0)))
    .brk
    .skip)
    (.par [3, 4] (.cons (.var 4) (.cons (.bin .mod (.var 3) (.var 4)) .nil)))))
    (.asg 1 (.var 3)))))
    (.ret (.var 1))))
def ir__law_contrary : S := (.ret (.idx (.comp (.var 2) (.name 2) (.range (.cons (.var 1) .nil)) (.cmp .eq (.bin .mod (.bin .mul (.var 0) (.var 2)) (.var 1)) (.bin .mod (.const (.int 1)) (.var 1)))) (.const (.int 0))))
def ir__law_right : S := (.seq (.asg 1 (.bin .add (.const (.int 1)) (.callio 43 0 (.cons (.const (.int 24)) .nil))))
    (.seq (.asg 2 (.callio 87 0 (.cons (.comp (.var 16) (.name 16) (.range (.cons (.const (.int 1)) (.cons (.const (.int 25)) .nil))) (.cmp .eq (.call 47 (.cons (.lst (.cons (.var 1) (.cons (.var 16) .nil))) .nil)) (.const (.int 1)))) .nil)))
    (.seq (.asg 3 (.callio 43 0 (.cons (.bin .add (.bin .mul (.bin .mul (.const (.int 3)) (.var 1)) (.var 2)) (.const (.int 5))) .nil)))
    (.seq (.par [4, 5] (.cons (.bin .mod (.bin .mul (.var 3) (.call 177 (.cons (.var 1) (.cons (.var 2) .nil)))) (.var 2)) (.cons (.bin .mod (.bin .mul (.var 3) (.call 177 (.cons (.var 2) (.cons (.var 1) .nil)))) (.var 1)) .nil)))
    (.seq (.ite (.cmp .ne (.bin .mod (.bin .sub (.bin .sub (.var 3) (.bin .mul (.var 1) (.var 4))) (.bin .mul (.var 2) (.var 5))) (.bin .mul (.var 1) (.var 2))) (.const (.int 0)))
    (.ret (.const (.bool false)))
    .skip)
    (.seq (.asg 6 (.bin .add (.bin .fdiv (.bin .sub (.bin .sub (.var 3) (.bin .mul (.var 1) (.var 4))) (.bin .mul (.var 2) (.var 5))) (.bin .mul (.var 1) (.var 2))) (.const (.int 1))))
    (.seq (.asg 6 (.bcall .max (.cons (.lst (.cons (.var 6) (.cons (.const (.int 0)) .nil))) .nil)))
    (.seq (.par [7, 8] (.cons (.bcall .max (.cons (.lst (.cons (.const (.int 1)) (.cons (.bin .fdiv (.var 3) (.var 1)) .nil))) .nil)) (.cons (.bcall .max (.cons (.lst (.cons (.const (.int 1)) (.cons (.bin .fdiv (.var 3) (.var 2)) .nil))) .nil)) .nil)))
    (.seq (.ite (.and (.cmp .le (.var 7) (.const (.int 60))) (.and (.cmp .le (.var 8) (.const (.int 60))) (.cmp .le (.bin .add (.bin .mul (.var 1) (.var 7)) (.bin .mul (.var 2) (.var 8))) (.const (.int 4000)))))
    (.ite (.not (.call 46 (.cons (.call 10 (.cons (.tup (.cons (.var 1) (.cons (.var 2) .nil))) (.cons (.lst (.cons (.var 7) (.cons (.var 8) .nil))) (.cons (.var 3) .nil)))) (.cons (.var 6) .nil))))
    (.ret (.const (.bool false)))
    .skip)
    .skip)
    (.seq (.asg 9 (.lst (.cons (.call 96 (.cons (.tup (.cons (.var 1) (.cons (.bin .sub (.const (.int 0)) (.var 2)) .nil))) (.cons (.var 3) .nil))) (.cons (.call 83 (.cons (.tup (.cons (.var 1) (.cons (.var 2) .nil))) (.cons (.var 3) .nil))) (.cons (.cmp .isN (.call 110 (.cons (.tup (.cons (.var 2) (.cons (.var 1) .nil))) (.cons (.var 3) .nil))) (.const .none)) (.cons (.call 99 (.cons (.tup (.cons (.var 1) (.cons (.var 2) .nil))) (.cons (.const (.int 0)) (.cons (.var 3) .nil)))) .nil))))))
    (.seq (.ite (.not (.call 46 (.cons (.var 9) (.cons (.lst (.cons (.cmp .gt (.var 6) (.const (.int 0))) (.cons (.cmp .gt (.var 6) (.const (.int 0))) (.cons (.cmp .eq (.var 6) (.const (.int 0))) (.cons (.bin .mul (.var 2) (.bin .mod (.bin .mul (.var 3) (.call 177 (.cons (.var 2) (.cons (.var 1) .nil)))) (.var 1))) .nil))))) .nil))))
    (.ret (.const (.bool false)))
    .skip)
    (.seq (.par [10, 11] (.cons (.bin .add (.const (.int 1)) (.callio 43 0 (.cons (.const (.int 60)) .nil))) (.cons (.bin .add (.const (.int 1)) (.callio 43 0 (.cons (.const (.int 60)) .nil))) .nil)))
    (.seq (.ite (.cmp .gt (.bin .add (.bin .mul (.var 1) (.var 10)) (.bin .mul (.var 2) (.var 11))) (.const (.int 4000)))
    (.ret (.const (.bool true)))
    .skip)
    (.seq (.asg 12 (.comp (.var 17) (.name 17) (.range (.cons (.const (.int 61)) .nil)) (.and (.cmp .le (.bin .add (.var 4) (.bin .mul (.var 2) (.var 17))) (.var 10)) (.chain .le .le (.const (.int 0)) (.bin .sub (.var 3) (.bin .mul (.var 1) (.bin .add (.var 4) (.bin .mul (.var 2) (.var 17))))) (.bin .mul (.var 2) (.var 11))))))
    (.seq (.asg 9 (.lst (.cons (.call 10 (.cons (.tup (.cons (.var 1) (.cons (.var 2) .nil))) (.cons (.tup (.cons (.var 10) (.cons (.var 11) .nil))) (.cons (.var 3) .nil)))) (.cons (.call 7 (.cons (.tup (.cons (.var 1) (.cons (.var 2) .nil))) (.cons (.tup (.cons (.var 10) (.cons (.var 11) .nil))) (.cons (.var 3) .nil)))) (.cons (.call 7 (.cons (.tup (.cons (.var 1) (.cons (.bin .sub (.const (.int 0)) (.var 2)) .nil))) (.cons (.tup (.cons (.var 10) (.cons (.var 11) .nil))) (.cons (.bin .sub (.var 3) (.bin .mul (.var 2) (.var 11))) .nil)))) .nil)))))
    (.seq (.ite (.not (.call 46 (.cons (.var 9) (.cons (.lst (.cons (.lenv 12) (.cons (.cmp .ne (.var 12) (.lst .nil)) (.cons (.cmp .ne (.var 12) (.lst .nil)) .nil)))) .nil))))
    (.ret (.const (.bool false)))
    .skip)
    (.seq (.asg 13 (.tup (.cons (.tup (.cons (.const (.str "i")) (.cons (.var 10) .nil))) (.cons (.tup (.cons (.const (.str "j")) (.cons (.var 11) .nil))) .nil))))
    (.seq (.par [14, 15] (.cons (.tup (.cons (.tup (.cons (.var 1) (.cons (.const (.int 0)) .nil))) (.cons (.const (.int 0)) .nil))) (.cons (.tup (.cons (.tup (.cons (.const (.int 0)) (.cons (.bin .sub (.const (.int 0)) (.var 2)) .nil))) (.cons (.var 3) .nil))) .nil)))
    (.ret (.call 46 (.cons (.lst (.cons (.call 61 (.cons (.var 13) (.cons (.var 14) (.cons (.var 15) .nil)))) (.cons (.call 59 (.cons (.var 13) (.cons (.var 15) (.cons (.var 14) .nil)))) .nil))) (.cons (.lst (.cons (.bin .mul (.bin .mul (.lenv 12) (.bin .add (.var 10) (.const (.int 1)))) (.bin .add (.var 11) (.const (.int 1)))) (.cons (.cmp .ne (.var 12) (.lst .nil)) .nil))) .nil))))))))))))))))))))))
def ir_law : S := (.seq (.asg 1 (.call 44 (.cons (.var 0) (.cons (.const (.int 2)) .nil))))
    (.seq (.for_ (.name 2) (.range (.cons (.lenv 1) .nil))
    (.seq (.asg 3 (.call 42 (.cons (.var 1) (.cons (.var 2) .nil))))
    (.ite (.not (.bcall .all (.cons (.comp (.callio 49 3 .nil) (.name 4) (.range (.cons (.const (.int 8)) .nil)) (.const (.bool true))) .nil)))
    (.ret (.const (.bool false)))
    .skip)))
    (.ret (.const (.bool true)))))
def F (k : Nat) : Option Fn := match k with
  | 1 => some ⟨2, 4, ir_least_sum⟩
  | 2 => some ⟨2, 4, ir_greatest_sum⟩
  | 3 => some ⟨1, 4, ir_step⟩
  | 4 => some ⟨2, 2, ir_divides⟩
  | 5 => some ⟨2, 9, ir_marks_along⟩
  | 6 => some ⟨2, 2, ir_is_marked⟩
  | 7 => some ⟨3, 3, ir_is_sum⟩
  | 10 => some ⟨3, 14, ir_how_many_counters⟩
  | 20 => some ⟨2, 2, ir_check_counter⟩
  | 24 => some ⟨1, 2, ir_sizes_of⟩
  | 25 => some ⟨2, 8, ir_classes_by⟩
  | 26 => some ⟨1, 2, ir_least_heaps⟩
  | 27 => some ⟨3, 3, ir_is_above⟩
  | 96 => some ⟨2, 2, ir_is_heap⟩
  | 99 => some ⟨3, 4, ir_least_in_class⟩
  | 110 => some ⟨2, 9, ir_heap_counts⟩
  | 57 => some ⟨3, 7, ir_all_rows⟩
  | 58 => some ⟨3, 6, ir_equation_of⟩
  | 59 => some ⟨3, 6, ir_touch⟩
  | 61 => some ⟨3, 9, ir_how_many_touchings⟩
  | 39 => some ⟨3, 4, ir_word_for⟩
  | 82 => some ⟨2, 2, ir_why_never⟩
  | 83 => some ⟨2, 2, ir_comes_at_all⟩
  | 42 => some ⟨2, 3, ir__law_box⟩
  | 43 => some ⟨2, 6, ir__law_take⟩
  | 44 => some ⟨2, 6, ir__law_cells⟩
  | 87 => some ⟨2, 2, ir__law_of⟩
  | 46 => some ⟨2, 4, ir__law_same⟩
  | 47 => some ⟨1, 6, ir__law_common⟩
  | 177 => some ⟨2, 3, ir__law_contrary⟩
  | 49 => some ⟨1, 18, ir__law_right⟩
  | 51 => some ⟨1, 5, ir_law⟩
  | _ => none
def fnL0 : List (Str × (Nat × Bool)) := [("least_sum", (1, false)), ("greatest_sum", (2, false)), ("step", (3, false)), ("divides", (4, false)), ("marks_along", (5, false)), ("is_marked", (6, false)), ("is_sum", (7, false)), ("how_many_counters", (10, false)), ("check_counter", (20, false)), ("sizes_of", (24, false)), ("classes_by", (25, false)), ("least_heaps", (26, false)), ("is_above", (27, false)), ("is_heap", (96, false)), ("least_in_class", (99, false)), ("heap_counts", (110, false)), ("all_rows", (57, false)), ("equation_of", (58, false)), ("touch", (59, false)), ("how_many_touchings", (61, false))]
def fnL1 : List (Str × (Nat × Bool)) := [("word_for", (39, false)), ("why_never", (82, false)), ("comes_at_all", (83, false)), ("_law_box", (42, false)), ("_law_take", (43, true)), ("_law_cells", (44, false)), ("_law_of", (87, true)), ("_law_same", (46, false)), ("_law_common", (47, false)), ("_law_contrary", (177, false)), ("_law_right", (49, true)), ("law", (51, false))]
def fnL : List (Str × (Nat × Bool)) := fnL0 ++ (fnL1)
def fnT (x : Str) : Option (Nat × Bool) := fnL.lookup x
def csL : List (Str × Val) := []
def csT (x : Str) : Option Val := csL.lookup x
abbrev N_least_sum : List Str := ["coefficients", "bounds", "own", "most"]
theorem sc_least_sum : C8.scC N_least_sum ["coefficients", "bounds"] (defScope (top 1)) = true := by decide +kernel
theorem c_least_sum : compSs ⟨N_least_sum, defScope (top 1), fnT, csT⟩ 60 (defBody (top 1)) = some ir_least_sum := by kernel_rfl
abbrev N_greatest_sum : List Str := ["coefficients", "bounds", "own", "most"]
theorem sc_greatest_sum : C8.scC N_greatest_sum ["coefficients", "bounds"] (defScope (top 2)) = true := by decide +kernel
theorem c_greatest_sum : compSs ⟨N_greatest_sum, defScope (top 2), fnT, csT⟩ 60 (defBody (top 2)) = some ir_greatest_sum := by kernel_rfl
abbrev N_step : List Str := ["coefficients", "found", "own", "near"]
theorem sc_step : C8.scC N_step ["coefficients"] (defScope (top 3)) = true := by decide +kernel
theorem c_step : compSs ⟨N_step, defScope (top 3), fnT, csT⟩ 60 (defBody (top 3)) = some ir_step := by kernel_rfl
abbrev N_divides : List Str := ["one", "number"]
theorem sc_divides : C8.scC N_divides ["one", "number"] (defScope (top 4)) = true := by decide +kernel
theorem c_divides : compSs ⟨N_divides, defScope (top 4), fnT, csT⟩ 60 (defBody (top 4)) = some ir_divides := by kernel_rfl
abbrev N_marks_along : List Str := ["coefficients", "bounds", "found", "own", "most", "here", "left", "part", "some"]
theorem sc_marks_along : C8.scC N_marks_along ["coefficients", "bounds"] (defScope (top 5)) = true := by decide +kernel
theorem c_marks_along : compSs ⟨N_marks_along, defScope (top 5), fnT, csT⟩ 60 (defBody (top 5)) = some ir_marks_along := by kernel_rfl
abbrev N_is_marked : List Str := ["marks", "at"]
theorem sc_is_marked : C8.scC N_is_marked ["marks", "at"] (defScope (top 6)) = true := by decide +kernel
theorem c_is_marked : compSs ⟨N_is_marked, defScope (top 6), fnT, csT⟩ 60 (defBody (top 6)) = some ir_is_marked := by kernel_rfl
abbrev N_is_sum : List Str := ["coefficients", "bounds", "number"]
theorem sc_is_sum : C8.scC N_is_sum ["coefficients", "bounds", "number"] (defScope (top 7)) = true := by decide +kernel
theorem c_is_sum : compSs ⟨N_is_sum, defScope (top 7), fnT, csT⟩ 60 (defBody (top 7)) = some ir_is_sum := by kernel_rfl
abbrev N_how_many_counters : List Str := ["coefficients", "bounds", "number", "least", "greatest", "ways", "own", "most", "size", "more", "at", "many", "ahead", "gone"]
theorem sc_how_many_counters : C8.scC N_how_many_counters ["coefficients", "bounds", "number"] (defScope (top 8)) = true := by decide +kernel
theorem c_how_many_counters : compSs ⟨N_how_many_counters, defScope (top 8), fnT, csT⟩ 60 (defBody (top 8)) = some ir_how_many_counters := by kernel_rfl
abbrev N_check_counter : List Str := ["coefficients", "place"]
theorem sc_check_counter : C8.scC N_check_counter ["coefficients", "place"] (defScope (top 12)) = true := by decide +kernel
theorem c_check_counter : compSs ⟨N_check_counter, defScope (top 12), fnT, csT⟩ 60 (defBody (top 12)) = some ir_check_counter := by kernel_rfl
abbrev N_sizes_of : List Str := ["coefficients", "own"]
theorem sc_sizes_of : C8.scC N_sizes_of ["coefficients"] (defScope (top 14)) = true := by decide +kernel
theorem c_sizes_of : compSs ⟨N_sizes_of, defScope (top 14), fnT, csT⟩ 60 (defBody (top 14)) = some ir_sizes_of := by kernel_rfl
abbrev N_classes_by : List Str := ["sizes", "size", "least", "last", "fresh", "here", "own", "later"]
theorem sc_classes_by : C8.scC N_classes_by ["sizes", "size"] (defScope (top 15)) = true := by decide +kernel
theorem c_classes_by : compSs ⟨N_classes_by, defScope (top 15), fnT, csT⟩ 60 (defBody (top 15)) = some ir_classes_by := by kernel_rfl
abbrev N_least_heaps : List Str := ["coefficients", "sizes"]
theorem sc_least_heaps : C8.scC N_least_heaps ["coefficients"] (defScope (top 16)) = true := by decide +kernel
theorem c_least_heaps : compSs ⟨N_least_heaps, defScope (top 16), fnT, csT⟩ 60 (defBody (top 16)) = some ir_least_heaps := by kernel_rfl
abbrev N_is_above : List Str := ["least", "size", "number"]
theorem sc_is_above : C8.scC N_is_above ["least", "size", "number"] (defScope (top 17)) = true := by decide +kernel
theorem c_is_above : compSs ⟨N_is_above, defScope (top 17), fnT, csT⟩ 60 (defBody (top 17)) = some ir_is_above := by kernel_rfl
abbrev N_is_heap : List Str := ["coefficients", "number"]
theorem sc_is_heap : C8.scC N_is_heap ["coefficients", "number"] (defScope (top 18)) = true := by decide +kernel
theorem c_is_heap : compSs ⟨N_is_heap, defScope (top 18), fnT, csT⟩ 60 (defBody (top 18)) = some ir_is_heap := by kernel_rfl
abbrev N_least_in_class : List Str := ["coefficients", "place", "number", "size"]
theorem sc_least_in_class : C8.scC N_least_in_class ["coefficients", "place", "number"] (defScope (top 19)) = true := by decide +kernel
theorem c_least_in_class : compSs ⟨N_least_in_class, defScope (top 19), fnT, csT⟩ 60 (defBody (top 19)) = some ir_least_in_class := by kernel_rfl
abbrev N_heap_counts : List Str := ["coefficients", "number", "own", "sizes", "found", "size", "least", "last", "here"]
theorem sc_heap_counts : C8.scC N_heap_counts ["coefficients", "number"] (defScope (top 20)) = true := by decide +kernel
theorem c_heap_counts : compSs ⟨N_heap_counts, defScope (top 20), fnT, csT⟩ 60 (defBody (top 20)) = some ir_heap_counts := by kernel_rfl
abbrev N_all_rows : List Str := ["loops", "one", "other", "near", "own", "name", "most"]
theorem sc_all_rows : C8.scC N_all_rows ["loops", "one", "other"] (defScope (top 22)) = true := by decide +kernel
theorem c_all_rows : compSs ⟨N_all_rows, defScope (top 22), fnT, csT⟩ 60 (defBody (top 22)) = some ir_all_rows := by kernel_rfl
abbrev N_equation_of : List Str := ["loops", "one", "other", "rows", "own", "most"]
theorem sc_equation_of : C8.scC N_equation_of ["loops", "one", "other"] (defScope (top 23)) = true := by decide +kernel
theorem c_equation_of : compSs ⟨N_equation_of, defScope (top 23), fnT, csT⟩ 60 (defBody (top 23)) = some ir_equation_of := by kernel_rfl
abbrev N_touch : List Str := ["loops", "one", "other", "coefficients", "bounds", "number"]
theorem sc_touch : C8.scC N_touch ["loops", "one", "other"] (defScope (top 24)) = true := by decide +kernel
theorem c_touch : compSs ⟨N_touch, defScope (top 24), fnT, csT⟩ 60 (defBody (top 24)) = some ir_touch := by kernel_rfl
abbrev N_how_many_touchings : List Str := ["loops", "one", "other", "coefficients", "bounds", "number", "found", "own", "most"]
theorem sc_how_many_touchings : C8.scC N_how_many_touchings ["loops", "one", "other"] (defScope (top 25)) = true := by decide +kernel
theorem c_how_many_touchings : compSs ⟨N_how_many_touchings, defScope (top 25), fnT, csT⟩ 60 (defBody (top 25)) = some ir_how_many_touchings := by kernel_rfl
abbrev N_word_for : List Str := ["coefficients", "least", "number", "own"]
theorem sc_word_for : C8.scC N_word_for ["coefficients", "least", "number"] (defScope (top 27)) = true := by decide +kernel
theorem c_word_for : compSs ⟨N_word_for, defScope (top 27), fnT, csT⟩ 60 (defBody (top 27)) = some ir_word_for := by kernel_rfl
abbrev N_why_never : List Str := ["coefficients", "number"]
theorem sc_why_never : C8.scC N_why_never ["coefficients", "number"] (defScope (top 28)) = true := by decide +kernel
theorem c_why_never : compSs ⟨N_why_never, defScope (top 28), fnT, csT⟩ 60 (defBody (top 28)) = some ir_why_never := by kernel_rfl
abbrev N_comes_at_all : List Str := ["coefficients", "number"]
theorem sc_comes_at_all : C8.scC N_comes_at_all ["coefficients", "number"] (defScope (top 29)) = true := by decide +kernel
theorem c_comes_at_all : compSs ⟨N_comes_at_all, defScope (top 29), fnT, csT⟩ 60 (defBody (top 29)) = some ir_comes_at_all := by kernel_rfl
abbrev N__law_box : List Str := ["script", "k", "bit_so"]
theorem sc__law_box : C8.scC N__law_box ["script", "k"] (defScope (top 31)) = true := by decide +kernel
theorem c__law_box : compSs ⟨N__law_box, defScope (top 31), fnT, csT⟩ 60 (defBody (top 31)) = some ir__law_box := by kernel_rfl
abbrev N__law_take : List Str := ["tin", "below_so", "drawn_so", "once_so", "wide_so", "twice_so"]
theorem sc__law_take : C8.scC N__law_take ["tin", "below_so"] (defScope (top 32)) = true := by decide +kernel
theorem c__law_take : compSs ⟨N__law_take, defScope (top 32), fnT, csT⟩ 60 (defBody (top 32)) = some ir__law_take := by kernel_rfl
abbrev N__law_cells : List Str := ["script", "most_so", "cells_so", "k", "bit_so", "at_so"]
theorem sc__law_cells : C8.scC N__law_cells ["script", "most_so"] (defScope (top 33)) = true := by decide +kernel
theorem c__law_cells : compSs ⟨N__law_cells, defScope (top 33), fnT, csT⟩ 60 (defBody (top 33)) = some ir__law_cells := by kernel_rfl
abbrev N__law_of : List Str := ["tin", "goods_so"]
theorem sc__law_of : C8.scC N__law_of ["tin", "goods_so"] (defScope (top 34)) = true := by decide +kernel
theorem c__law_of : compSs ⟨N__law_of, defScope (top 34), fnT, csT⟩ 60 (defBody (top 34)) = some ir__law_of := by kernel_rfl
abbrev N__law_same : List Str := ["got", "due", "mine", "its"]
theorem sc__law_same : C8.scC N__law_same ["got", "due"] (defScope (top 35)) = true := by decide +kernel
theorem c__law_same : compSs ⟨N__law_same, defScope (top 35), fnT, csT⟩ 60 (defBody (top 35)) = some ir__law_same := by kernel_rfl
abbrev N__law_common : List Str := ["rows_so", "found", "own", "a", "b", "lap"]
theorem sc__law_common : C8.scC N__law_common ["rows_so"] (defScope (top 36)) = true := by decide +kernel
theorem c__law_common : compSs ⟨N__law_common, defScope (top 36), fnT, csT⟩ 60 (defBody (top 36)) = some ir__law_common := by kernel_rfl
abbrev N__law_contrary : List Str := ["a", "b", "k"]
theorem sc__law_contrary : C8.scC N__law_contrary ["a", "b"] (defScope (top 37)) = true := by decide +kernel
theorem c__law_contrary : compSs ⟨N__law_contrary, defScope (top 37), fnT, csT⟩ 60 (defBody (top 37)) = some ir__law_contrary := by kernel_rfl
abbrev N__law_right : List Str := ["tin", "a", "b", "number_so", "x", "y", "due", "high_so", "wide_so", "got", "m", "n", "lows_so", "loops_so", "one_so", "two", "own", "k"]
theorem sc__law_right : C8.scC N__law_right ["tin"] (defScope (top 38)) = true := by decide +kernel
theorem c__law_right : compSs ⟨N__law_right, defScope (top 38), fnT, csT⟩ 60 (defBody (top 38)) = some ir__law_right := by kernel_rfl
abbrev N_law : List Str := ["script", "cells_so", "k", "tin", "lap"]
theorem sc_law : C8.scC N_law ["script"] (defScope (top 39)) = true := by decide +kernel
theorem c_law : compSs ⟨N_law, defScope (top 39), fnT, csT⟩ 60 (defBody (top 39)) = some ir_law := by kernel_rfl
def dl (x : Str) (i : Nat) : He.DefD := ⟨(x, none), x, x, defArgs (top i), defBody (top i), defScope (top i), [], []⟩
def fn0 : List (He.DefD) := [dl "least_sum" 1, dl "greatest_sum" 2, dl "step" 3, dl "divides" 4, dl "marks_along" 5, dl "is_marked" 6, dl "is_sum" 7, dl "how_many_counters" 8, dl "check_counter" 12, dl "sizes_of" 14, dl "classes_by" 15, dl "least_heaps" 16, dl "is_above" 17, dl "is_heap" 18, dl "least_in_class" 19, dl "heap_counts" 20, dl "all_rows" 22, dl "equation_of" 23, dl "touch" 24, dl "how_many_touchings" 25]
def fn1 : List (He.DefD) := [dl "word_for" 27, dl "why_never" 28, dl "comes_at_all" 29, dl "_law_box" 31, dl "_law_take" 32, dl "_law_cells" 33, dl "_law_of" 34, dl "_law_same" 35, dl "_law_common" 36, dl "_law_contrary" 37, dl "_law_right" 38, dl "law" 39]
def fn : List (He.DefD) := fn0 ++ (fn1)
def fa0 : List (He.Fa) := [.glo "least_sum", .glo "greatest_sum", .glo "step", .glo "divides", .glo "marks_along", .glo "is_marked", .glo "is_sum", .glo "how_many_counters", .glo "check_counter", .glo "sizes_of", .glo "classes_by", .glo "least_heaps", .glo "is_above", .glo "is_heap", .glo "least_in_class", .glo "heap_counts", .glo "all_rows", .glo "equation_of", .glo "touch", .glo "how_many_touchings"]
def fa1 : List (He.Fa) := [.glo "word_for", .glo "why_never", .glo "comes_at_all", .glo "_law_box", .glo "_law_take", .glo "_law_cells", .glo "_law_of", .glo "_law_same", .glo "_law_common", .glo "_law_contrary", .glo "_law_right", .glo "law", .free "len", .free "abs", .free "sum", .free "min", .free "max", .free "all", .free "any", .free "int"]
def fa2 : List (He.Fa) := [.free "sorted", .free "set", .free "dict", .free "str", .free "list", .free "tuple", .free "range", .free "enumerate", .free "zip", .free "isinstance", .free "bool"]
def fa : List (He.Fa) := fa0 ++ (fa1 ++ (fa2))
def tups : List (Str × List He.Dv) := []
def names0 : List Str := ["least_sum", "greatest_sum", "step", "divides", "marks_along", "is_marked", "is_sum", "how_many_counters", "NoCounter", "check_counter", "sizes_of", "classes_by", "least_heaps", "is_above", "is_heap", "least_in_class", "heap_counts", "all_rows", "equation_of", "touch", "how_many_touchings", "word_for", "why_never", "comes_at_all", "_law_box", "_law_take", "_law_cells", "_law_of", "_law_same", "_law_common"]
def names1 : List Str := ["_law_contrary", "_law_right"]
def names : List Str := names0 ++ names1
def LAWI : Nat := 39
abbrev R : PySem.W.OpenRow := PySem.W.OpenLaw.row PySem.Challenge.rw_quickexact_k88_main_how_often_two_make_a
abbrev hk : PySem.W.Hook := QHd.hook 4 fa fn tups
def ob (s : PySem.W.SharedT) : QHd.Al := QHd.obsG 4 fa fn tups (HandSHeadRun.getT s)
theorem ob_eq (s : PySem.W.SharedT) : ob s = hk.obs s.abs := QHd.obsG_eq (HandSHeadRun.getT_eq s)
theorem run (w : World) : HandSHeadRun.RunEq R (PySem.W.view R.prog [39]) hk ob 2000 names w := by
  intro os
  kernel_rfl
section
variable {P : Program} {w : World} {K : PySem.W.Frag} {mg : Str → Option Value} {base h : Heap}
abbrev DO (P : Program) (w : World) (K : PySem.W.Frag) (mg : Str → Option Value) (base : Heap) := QHd.DOk P w K mg base F fnT csT
theorem d_least_sum (X : K.In h) (G : h.Ns mainGlobals mg) (c : He.SaysD fa fn K) : DO P w K mg base ("least_sum", (1, false)) := by
  obtain ⟨fd, D⟩ := c.def_ 0 (d := dl "least_sum" 1) rfl
  have g := He.glo_ok X G (c.fact 0 (f := .glo "least_sum") rfl)
  have b : Binds K fd ["coefficients", "bounds"] [] := D.bindsN (fun _ _ _ _ _ _ us hl => match us, hl with | [_, _], _ => rfl)
  exact .inl ⟨_, _, fd, rfl, ⟨top 1, N_least_sum, ["coefficients", "bounds"], 60, D, g, b, sc_least_sum, c_least_sum, rfl, rfl, by decide⟩⟩
theorem d_greatest_sum (X : K.In h) (G : h.Ns mainGlobals mg) (c : He.SaysD fa fn K) : DO P w K mg base ("greatest_sum", (2, false)) := by
  obtain ⟨fd, D⟩ := c.def_ 1 (d := dl "greatest_sum" 2) rfl
  have g := He.glo_ok X G (c.fact 1 (f := .glo "greatest_sum") rfl)
  have b : Binds K fd ["coefficients", "bounds"] [] := D.bindsN (fun _ _ _ _ _ _ us hl => match us, hl with | [_, _], _ => rfl)
  exact .inl ⟨_, _, fd, rfl, ⟨top 2, N_greatest_sum, ["coefficients", "bounds"], 60, D, g, b, sc_greatest_sum, c_greatest_sum, rfl, rfl, by decide⟩⟩
theorem d_step (X : K.In h) (G : h.Ns mainGlobals mg) (c : He.SaysD fa fn K) : DO P w K mg base ("step", (3, false)) := by
  obtain ⟨fd, D⟩ := c.def_ 2 (d := dl "step" 3) rfl
  have g := He.glo_ok X G (c.fact 2 (f := .glo "step") rfl)
  have b : Binds K fd ["coefficients"] [] := D.bindsN (fun _ _ _ _ _ _ us hl => match us, hl with | [_], _ => rfl)
  exact .inl ⟨_, _, fd, rfl, ⟨top 3, N_step, ["coefficients"], 60, D, g, b, sc_step, c_step, rfl, rfl, by decide⟩⟩
theorem d_divides (X : K.In h) (G : h.Ns mainGlobals mg) (c : He.SaysD fa fn K) : DO P w K mg base ("divides", (4, false)) := by
  obtain ⟨fd, D⟩ := c.def_ 3 (d := dl "divides" 4) rfl
  have g := He.glo_ok X G (c.fact 3 (f := .glo "divides") rfl)
  have b : Binds K fd ["one", "number"] [] := D.bindsN (fun _ _ _ _ _ _ us hl => match us, hl with | [_, _], _ => rfl)
  exact .inl ⟨_, _, fd, rfl, ⟨top 4, N_divides, ["one", "number"], 60, D, g, b, sc_divides, c_divides, rfl, rfl, by decide⟩⟩
theorem d_marks_along (X : K.In h) (G : h.Ns mainGlobals mg) (c : He.SaysD fa fn K) : DO P w K mg base ("marks_along", (5, false)) := by
  obtain ⟨fd, D⟩ := c.def_ 4 (d := dl "marks_along" 5) rfl
  have g := He.glo_ok X G (c.fact 4 (f := .glo "marks_along") rfl)
  have b : Binds K fd ["coefficients", "bounds"] [] := D.bindsN (fun _ _ _ _ _ _ us hl => match us, hl with | [_, _], _ => rfl)
  exact .inl ⟨_, _, fd, rfl, ⟨top 5, N_marks_along, ["coefficients", "bounds"], 60, D, g, b, sc_marks_along, c_marks_along, rfl, rfl, by decide⟩⟩
theorem d_is_marked (X : K.In h) (G : h.Ns mainGlobals mg) (c : He.SaysD fa fn K) : DO P w K mg base ("is_marked", (6, false)) := by
  obtain ⟨fd, D⟩ := c.def_ 5 (d := dl "is_marked" 6) rfl
  have g := He.glo_ok X G (c.fact 5 (f := .glo "is_marked") rfl)
  have b : Binds K fd ["marks", "at"] [] := D.bindsN (fun _ _ _ _ _ _ us hl => match us, hl with | [_, _], _ => rfl)
  exact .inl ⟨_, _, fd, rfl, ⟨top 6, N_is_marked, ["marks", "at"], 60, D, g, b, sc_is_marked, c_is_marked, rfl, rfl, by decide⟩⟩
theorem d_is_sum (X : K.In h) (G : h.Ns mainGlobals mg) (c : He.SaysD fa fn K) : DO P w K mg base ("is_sum", (7, false)) := by
  obtain ⟨fd, D⟩ := c.def_ 6 (d := dl "is_sum" 7) rfl
  have g := He.glo_ok X G (c.fact 6 (f := .glo "is_sum") rfl)
  have b : Binds K fd ["coefficients", "bounds", "number"] [] := D.bindsN (fun _ _ _ _ _ _ us hl => match us, hl with | [_, _, _], _ => rfl)
  exact .inl ⟨_, _, fd, rfl, ⟨top 7, N_is_sum, ["coefficients", "bounds", "number"], 60, D, g, b, sc_is_sum, c_is_sum, rfl, rfl, by decide⟩⟩
theorem d_how_many_counters (X : K.In h) (G : h.Ns mainGlobals mg) (c : He.SaysD fa fn K) : DO P w K mg base ("how_many_counters", (10, false)) := by
  obtain ⟨fd, D⟩ := c.def_ 7 (d := dl "how_many_counters" 8) rfl
  have g := He.glo_ok X G (c.fact 7 (f := .glo "how_many_counters") rfl)
  have b : Binds K fd ["coefficients", "bounds", "number"] [] := D.bindsN (fun _ _ _ _ _ _ us hl => match us, hl with | [_, _, _], _ => rfl)
  exact .inl ⟨_, _, fd, rfl, ⟨top 8, N_how_many_counters, ["coefficients", "bounds", "number"], 60, D, g, b, sc_how_many_counters, c_how_many_counters, rfl, rfl, by decide⟩⟩
theorem d_check_counter (X : K.In h) (G : h.Ns mainGlobals mg) (c : He.SaysD fa fn K) : DO P w K mg base ("check_counter", (20, false)) := by
  obtain ⟨fd, D⟩ := c.def_ 8 (d := dl "check_counter" 12) rfl
  have g := He.glo_ok X G (c.fact 8 (f := .glo "check_counter") rfl)
  have b : Binds K fd ["coefficients", "place"] [] := D.bindsN (fun _ _ _ _ _ _ us hl => match us, hl with | [_, _], _ => rfl)
  exact .inl ⟨_, _, fd, rfl, ⟨top 12, N_check_counter, ["coefficients", "place"], 60, D, g, b, sc_check_counter, c_check_counter, rfl, rfl, by decide⟩⟩
theorem d_sizes_of (X : K.In h) (G : h.Ns mainGlobals mg) (c : He.SaysD fa fn K) : DO P w K mg base ("sizes_of", (24, false)) := by
  obtain ⟨fd, D⟩ := c.def_ 9 (d := dl "sizes_of" 14) rfl
  have g := He.glo_ok X G (c.fact 9 (f := .glo "sizes_of") rfl)
  have b : Binds K fd ["coefficients"] [] := D.bindsN (fun _ _ _ _ _ _ us hl => match us, hl with | [_], _ => rfl)
  exact .inl ⟨_, _, fd, rfl, ⟨top 14, N_sizes_of, ["coefficients"], 60, D, g, b, sc_sizes_of, c_sizes_of, rfl, rfl, by decide⟩⟩
theorem d_classes_by (X : K.In h) (G : h.Ns mainGlobals mg) (c : He.SaysD fa fn K) : DO P w K mg base ("classes_by", (25, false)) := by
  obtain ⟨fd, D⟩ := c.def_ 10 (d := dl "classes_by" 15) rfl
  have g := He.glo_ok X G (c.fact 10 (f := .glo "classes_by") rfl)
  have b : Binds K fd ["sizes", "size"] [] := D.bindsN (fun _ _ _ _ _ _ us hl => match us, hl with | [_, _], _ => rfl)
  exact .inl ⟨_, _, fd, rfl, ⟨top 15, N_classes_by, ["sizes", "size"], 60, D, g, b, sc_classes_by, c_classes_by, rfl, rfl, by decide⟩⟩
theorem d_least_heaps (X : K.In h) (G : h.Ns mainGlobals mg) (c : He.SaysD fa fn K) : DO P w K mg base ("least_heaps", (26, false)) := by
  obtain ⟨fd, D⟩ := c.def_ 11 (d := dl "least_heaps" 16) rfl
  have g := He.glo_ok X G (c.fact 11 (f := .glo "least_heaps") rfl)
  have b : Binds K fd ["coefficients"] [] := D.bindsN (fun _ _ _ _ _ _ us hl => match us, hl with | [_], _ => rfl)
  exact .inl ⟨_, _, fd, rfl, ⟨top 16, N_least_heaps, ["coefficients"], 60, D, g, b, sc_least_heaps, c_least_heaps, rfl, rfl, by decide⟩⟩
theorem d_is_above (X : K.In h) (G : h.Ns mainGlobals mg) (c : He.SaysD fa fn K) : DO P w K mg base ("is_above", (27, false)) := by
  obtain ⟨fd, D⟩ := c.def_ 12 (d := dl "is_above" 17) rfl
  have g := He.glo_ok X G (c.fact 12 (f := .glo "is_above") rfl)
  have b : Binds K fd ["least", "size", "number"] [] := D.bindsN (fun _ _ _ _ _ _ us hl => match us, hl with | [_, _, _], _ => rfl)
  exact .inl ⟨_, _, fd, rfl, ⟨top 17, N_is_above, ["least", "size", "number"], 60, D, g, b, sc_is_above, c_is_above, rfl, rfl, by decide⟩⟩
theorem d_is_heap (X : K.In h) (G : h.Ns mainGlobals mg) (c : He.SaysD fa fn K) : DO P w K mg base ("is_heap", (96, false)) := by
  obtain ⟨fd, D⟩ := c.def_ 13 (d := dl "is_heap" 18) rfl
  have g := He.glo_ok X G (c.fact 13 (f := .glo "is_heap") rfl)
  have b : Binds K fd ["coefficients", "number"] [] := D.bindsN (fun _ _ _ _ _ _ us hl => match us, hl with | [_, _], _ => rfl)
  exact .inl ⟨_, _, fd, rfl, ⟨top 18, N_is_heap, ["coefficients", "number"], 60, D, g, b, sc_is_heap, c_is_heap, rfl, rfl, by decide⟩⟩
theorem d_least_in_class (X : K.In h) (G : h.Ns mainGlobals mg) (c : He.SaysD fa fn K) : DO P w K mg base ("least_in_class", (99, false)) := by
  obtain ⟨fd, D⟩ := c.def_ 14 (d := dl "least_in_class" 19) rfl
  have g := He.glo_ok X G (c.fact 14 (f := .glo "least_in_class") rfl)
  have b : Binds K fd ["coefficients", "place", "number"] [] := D.bindsN (fun _ _ _ _ _ _ us hl => match us, hl with | [_, _, _], _ => rfl)
  exact .inl ⟨_, _, fd, rfl, ⟨top 19, N_least_in_class, ["coefficients", "place", "number"], 60, D, g, b, sc_least_in_class, c_least_in_class, rfl, rfl, by decide⟩⟩
theorem d_heap_counts (X : K.In h) (G : h.Ns mainGlobals mg) (c : He.SaysD fa fn K) : DO P w K mg base ("heap_counts", (110, false)) := by
  obtain ⟨fd, D⟩ := c.def_ 15 (d := dl "heap_counts" 20) rfl
  have g := He.glo_ok X G (c.fact 15 (f := .glo "heap_counts") rfl)
  have b : Binds K fd ["coefficients", "number"] [] := D.bindsN (fun _ _ _ _ _ _ us hl => match us, hl with | [_, _], _ => rfl)
  exact .inl ⟨_, _, fd, rfl, ⟨top 20, N_heap_counts, ["coefficients", "number"], 60, D, g, b, sc_heap_counts, c_heap_counts, rfl, rfl, by decide⟩⟩
theorem d_all_rows (X : K.In h) (G : h.Ns mainGlobals mg) (c : He.SaysD fa fn K) : DO P w K mg base ("all_rows", (57, false)) := by
  obtain ⟨fd, D⟩ := c.def_ 16 (d := dl "all_rows" 22) rfl
  have g := He.glo_ok X G (c.fact 16 (f := .glo "all_rows") rfl)
  have b : Binds K fd ["loops", "one", "other"] [] := D.bindsN (fun _ _ _ _ _ _ us hl => match us, hl with | [_, _, _], _ => rfl)
  exact .inl ⟨_, _, fd, rfl, ⟨top 22, N_all_rows, ["loops", "one", "other"], 60, D, g, b, sc_all_rows, c_all_rows, rfl, rfl, by decide⟩⟩
theorem d_equation_of (X : K.In h) (G : h.Ns mainGlobals mg) (c : He.SaysD fa fn K) : DO P w K mg base ("equation_of", (58, false)) := by
  obtain ⟨fd, D⟩ := c.def_ 17 (d := dl "equation_of" 23) rfl
  have g := He.glo_ok X G (c.fact 17 (f := .glo "equation_of") rfl)
  have b : Binds K fd ["loops", "one", "other"] [] := D.bindsN (fun _ _ _ _ _ _ us hl => match us, hl with | [_, _, _], _ => rfl)
  exact .inl ⟨_, _, fd, rfl, ⟨top 23, N_equation_of, ["loops", "one", "other"], 60, D, g, b, sc_equation_of, c_equation_of, rfl, rfl, by decide⟩⟩
theorem d_touch (X : K.In h) (G : h.Ns mainGlobals mg) (c : He.SaysD fa fn K) : DO P w K mg base ("touch", (59, false)) := by
  obtain ⟨fd, D⟩ := c.def_ 18 (d := dl "touch" 24) rfl
  have g := He.glo_ok X G (c.fact 18 (f := .glo "touch") rfl)
  have b : Binds K fd ["loops", "one", "other"] [] := D.bindsN (fun _ _ _ _ _ _ us hl => match us, hl with | [_, _, _], _ => rfl)
  exact .inl ⟨_, _, fd, rfl, ⟨top 24, N_touch, ["loops", "one", "other"], 60, D, g, b, sc_touch, c_touch, rfl, rfl, by decide⟩⟩
theorem d_how_many_touchings (X : K.In h) (G : h.Ns mainGlobals mg) (c : He.SaysD fa fn K) : DO P w K mg base ("how_many_touchings", (61, false)) := by
  obtain ⟨fd, D⟩ := c.def_ 19 (d := dl "how_many_touchings" 25) rfl
  have g := He.glo_ok X G (c.fact 19 (f := .glo "how_many_touchings") rfl)
  have b : Binds K fd ["loops", "one", "other"] [] := D.bindsN (fun _ _ _ _ _ _ us hl => match us, hl with | [_, _, _], _ => rfl)
  exact .inl ⟨_, _, fd, rfl, ⟨top 25, N_how_many_touchings, ["loops", "one", "other"], 60, D, g, b, sc_how_many_touchings, c_how_many_touchings, rfl, rfl, by decide⟩⟩
theorem d_word_for (X : K.In h) (G : h.Ns mainGlobals mg) (c : He.SaysD fa fn K) : DO P w K mg base ("word_for", (39, false)) := by
  obtain ⟨fd, D⟩ := c.def_ 20 (d := dl "word_for" 27) rfl
  have g := He.glo_ok X G (c.fact 20 (f := .glo "word_for") rfl)
  have b : Binds K fd ["coefficients", "least", "number"] [] := D.bindsN (fun _ _ _ _ _ _ us hl => match us, hl with | [_, _, _], _ => rfl)
  exact .inl ⟨_, _, fd, rfl, ⟨top 27, N_word_for, ["coefficients", "least", "number"], 60, D, g, b, sc_word_for, c_word_for, rfl, rfl, by decide⟩⟩
theorem d_why_never (X : K.In h) (G : h.Ns mainGlobals mg) (c : He.SaysD fa fn K) : DO P w K mg base ("why_never", (82, false)) := by
  obtain ⟨fd, D⟩ := c.def_ 21 (d := dl "why_never" 28) rfl
  have g := He.glo_ok X G (c.fact 21 (f := .glo "why_never") rfl)
  have b : Binds K fd ["coefficients", "number"] [] := D.bindsN (fun _ _ _ _ _ _ us hl => match us, hl with | [_, _], _ => rfl)
  exact .inl ⟨_, _, fd, rfl, ⟨top 28, N_why_never, ["coefficients", "number"], 60, D, g, b, sc_why_never, c_why_never, rfl, rfl, by decide⟩⟩
theorem d_comes_at_all (X : K.In h) (G : h.Ns mainGlobals mg) (c : He.SaysD fa fn K) : DO P w K mg base ("comes_at_all", (83, false)) := by
  obtain ⟨fd, D⟩ := c.def_ 22 (d := dl "comes_at_all" 29) rfl
  have g := He.glo_ok X G (c.fact 22 (f := .glo "comes_at_all") rfl)
  have b : Binds K fd ["coefficients", "number"] [] := D.bindsN (fun _ _ _ _ _ _ us hl => match us, hl with | [_, _], _ => rfl)
  exact .inl ⟨_, _, fd, rfl, ⟨top 29, N_comes_at_all, ["coefficients", "number"], 60, D, g, b, sc_comes_at_all, c_comes_at_all, rfl, rfl, by decide⟩⟩
theorem d__law_box (X : K.In h) (G : h.Ns mainGlobals mg) (c : He.SaysD fa fn K) : DO P w K mg base ("_law_box", (42, false)) := by
  obtain ⟨fd, D⟩ := c.def_ 23 (d := dl "_law_box" 31) rfl
  have g := He.glo_ok X G (c.fact 23 (f := .glo "_law_box") rfl)
  have b : Binds K fd ["script", "k"] [] := D.bindsN (fun _ _ _ _ _ _ us hl => match us, hl with | [_, _], _ => rfl)
  exact .inl ⟨_, _, fd, rfl, ⟨top 31, N__law_box, ["script", "k"], 60, D, g, b, sc__law_box, c__law_box, rfl, rfl, by decide⟩⟩
theorem d__law_take (X : K.In h) (G : h.Ns mainGlobals mg) (c : He.SaysD fa fn K) : DO P w K mg base ("_law_take", (43, true)) := by
  obtain ⟨fd, D⟩ := c.def_ 24 (d := dl "_law_take" 32) rfl
  have g := He.glo_ok X G (c.fact 24 (f := .glo "_law_take") rfl)
  have b : Binds K fd ["tin", "below_so"] [] := D.bindsN (fun _ _ _ _ _ _ us hl => match us, hl with | [_, _], _ => rfl)
  exact .inl ⟨_, _, fd, rfl, ⟨top 32, N__law_take, ["tin", "below_so"], 60, D, g, b, sc__law_take, c__law_take, rfl, rfl, by decide⟩⟩
theorem d__law_cells (X : K.In h) (G : h.Ns mainGlobals mg) (c : He.SaysD fa fn K) : DO P w K mg base ("_law_cells", (44, false)) := by
  obtain ⟨fd, D⟩ := c.def_ 25 (d := dl "_law_cells" 33) rfl
  have g := He.glo_ok X G (c.fact 25 (f := .glo "_law_cells") rfl)
  have b : Binds K fd ["script", "most_so"] [] := D.bindsN (fun _ _ _ _ _ _ us hl => match us, hl with | [_, _], _ => rfl)
  exact .inl ⟨_, _, fd, rfl, ⟨top 33, N__law_cells, ["script", "most_so"], 60, D, g, b, sc__law_cells, c__law_cells, rfl, rfl, by decide⟩⟩
theorem d__law_of (X : K.In h) (G : h.Ns mainGlobals mg) (c : He.SaysD fa fn K) : DO P w K mg base ("_law_of", (87, true)) := by
  obtain ⟨fd, D⟩ := c.def_ 26 (d := dl "_law_of" 34) rfl
  have g := He.glo_ok X G (c.fact 26 (f := .glo "_law_of") rfl)
  have b : Binds K fd ["tin", "goods_so"] [] := D.bindsN (fun _ _ _ _ _ _ us hl => match us, hl with | [_, _], _ => rfl)
  exact .inl ⟨_, _, fd, rfl, ⟨top 34, N__law_of, ["tin", "goods_so"], 60, D, g, b, sc__law_of, c__law_of, rfl, rfl, by decide⟩⟩
theorem d__law_same (X : K.In h) (G : h.Ns mainGlobals mg) (c : He.SaysD fa fn K) : DO P w K mg base ("_law_same", (46, false)) := by
  obtain ⟨fd, D⟩ := c.def_ 27 (d := dl "_law_same" 35) rfl
  have g := He.glo_ok X G (c.fact 27 (f := .glo "_law_same") rfl)
  have b : Binds K fd ["got", "due"] [] := D.bindsN (fun _ _ _ _ _ _ us hl => match us, hl with | [_, _], _ => rfl)
  exact .inl ⟨_, _, fd, rfl, ⟨top 35, N__law_same, ["got", "due"], 60, D, g, b, sc__law_same, c__law_same, rfl, rfl, by decide⟩⟩
theorem d__law_common (X : K.In h) (G : h.Ns mainGlobals mg) (c : He.SaysD fa fn K) : DO P w K mg base ("_law_common", (47, false)) := by
  obtain ⟨fd, D⟩ := c.def_ 28 (d := dl "_law_common" 36) rfl
  have g := He.glo_ok X G (c.fact 28 (f := .glo "_law_common") rfl)
  have b : Binds K fd ["rows_so"] [] := D.bindsN (fun _ _ _ _ _ _ us hl => match us, hl with | [_], _ => rfl)
  exact .inl ⟨_, _, fd, rfl, ⟨top 36, N__law_common, ["rows_so"], 60, D, g, b, sc__law_common, c__law_common, rfl, rfl, by decide⟩⟩
theorem d__law_contrary (X : K.In h) (G : h.Ns mainGlobals mg) (c : He.SaysD fa fn K) : DO P w K mg base ("_law_contrary", (177, false)) := by
  obtain ⟨fd, D⟩ := c.def_ 29 (d := dl "_law_contrary" 37) rfl
  have g := He.glo_ok X G (c.fact 29 (f := .glo "_law_contrary") rfl)
  have b : Binds K fd ["a", "b"] [] := D.bindsN (fun _ _ _ _ _ _ us hl => match us, hl with | [_, _], _ => rfl)
  exact .inl ⟨_, _, fd, rfl, ⟨top 37, N__law_contrary, ["a", "b"], 60, D, g, b, sc__law_contrary, c__law_contrary, rfl, rfl, by decide⟩⟩
theorem d__law_right (X : K.In h) (G : h.Ns mainGlobals mg) (c : He.SaysD fa fn K) : DO P w K mg base ("_law_right", (49, true)) := by
  obtain ⟨fd, D⟩ := c.def_ 30 (d := dl "_law_right" 38) rfl
  have g := He.glo_ok X G (c.fact 30 (f := .glo "_law_right") rfl)
  have b : Binds K fd ["tin"] [] := D.bindsN (fun _ _ _ _ _ _ us hl => match us, hl with | [_], _ => rfl)
  exact .inl ⟨_, _, fd, rfl, ⟨top 38, N__law_right, ["tin"], 60, D, g, b, sc__law_right, c__law_right, rfl, rfl, by decide⟩⟩
theorem d_law (X : K.In h) (G : h.Ns mainGlobals mg) (c : He.SaysD fa fn K) : DO P w K mg base ("law", (51, false)) := by
  obtain ⟨fd, D⟩ := c.def_ 31 (d := dl "law" 39) rfl
  have g := He.glo_ok X G (c.fact 31 (f := .glo "law") rfl)
  have b : Binds K fd ["script"] [] := D.bindsN (fun _ _ _ _ _ _ us hl => match us, hl with | [_], _ => rfl)
  exact .inl ⟨_, _, fd, rfl, ⟨top 39, N_law, ["script"], 60, D, g, b, sc_law, c_law, rfl, rfl, by decide⟩⟩
theorem dall (X : K.In h) (G : h.Ns mainGlobals mg) (c : He.SaysD fa fn K) : QHd.AllP (DO P w K mg base) fnL := ⟨d_least_sum X G c, d_greatest_sum X G c, d_step X G c, d_divides X G c, d_marks_along X G c, d_is_marked X G c, d_is_sum X G c, d_how_many_counters X G c, d_check_counter X G c, d_sizes_of X G c, d_classes_by X G c, d_least_heaps X G c, d_is_above X G c, d_is_heap X G c, d_least_in_class X G c, d_heap_counts X G c, d_all_rows X G c, d_equation_of X G c, d_touch X G c, d_how_many_touchings X G c, d_word_for X G c, d_why_never X G c, d_comes_at_all X G c, d__law_box X G c, d__law_take X G c, d__law_cells X G c, d__law_of X G c, d__law_same X G c, d__law_common X G c, d__law_contrary X G c, d__law_right X G c, d_law X G c, trivial⟩
theorem blts (X : K.In h) (G : h.Ns mainGlobals mg) (c : He.SaysD fa fn K) : ∀ x ∈ bltNames, mg x = none := QHd.AllP.mem (l := bltNames) ⟨He.free_ok X G (c.fact 32 (f := .free "len") rfl), He.free_ok X G (c.fact 33 (f := .free "abs") rfl), He.free_ok X G (c.fact 34 (f := .free "sum") rfl), He.free_ok X G (c.fact 35 (f := .free "min") rfl), He.free_ok X G (c.fact 36 (f := .free "max") rfl), He.free_ok X G (c.fact 37 (f := .free "all") rfl), He.free_ok X G (c.fact 38 (f := .free "any") rfl), He.free_ok X G (c.fact 39 (f := .free "int") rfl), He.free_ok X G (c.fact 40 (f := .free "sorted") rfl), He.free_ok X G (c.fact 41 (f := .free "set") rfl), He.free_ok X G (c.fact 42 (f := .free "dict") rfl), He.free_ok X G (c.fact 43 (f := .free "str") rfl), He.free_ok X G (c.fact 44 (f := .free "list") rfl), He.free_ok X G (c.fact 45 (f := .free "tuple") rfl), He.free_ok X G (c.fact 46 (f := .free "range") rfl), He.free_ok X G (c.fact 47 (f := .free "enumerate") rfl), He.free_ok X G (c.fact 48 (f := .free "zip") rfl), He.free_ok X G (c.fact 49 (f := .free "isinstance") rfl), He.free_ok X G (c.fact 50 (f := .free "bool") rfl), trivial⟩
def CO (w : World) (K : PySem.W.Frag) (mg : Str → Option Value) (q : Str × Val) : Prop := ∃ u y, mg q.1 = some u ∧ RelV y u ∧ ∀ N H, Rep K w N H q.2 y
theorem csts (X : K.In h) (G : h.Ns mainGlobals mg) (c : He.SaysD fa fn K) (ct : QHd.tupsB tups K = true) : ∀ x v, csT x = some v → ∃ u y, mg x = some u ∧ RelV y u ∧ ∀ N H, Rep K w N H v y := by
  intro x v e
  refine QHd.AllP.mem (p := CO w K mg) (l := csL) (trivial) _ (QHd.lookup_mem e)
theorem facts {f : Addr} (X : K.In h) (G : h.Ns mainGlobals mg) (hfa : mg ("law" : Str) = some (.ref f)) (c : He.SaysD fa fn K) (ct : QHd.tupsB tups K = true) :
    ∃ fd : FuncData, (∀ (s : Shared) (v : Value), BindsTo s fd ⟨[v], []⟩ [("script", v)]) ∧ ∀ base : Heap, K.In base → base.Ns mainGlobals mg → FnOk P w K mg base CX0 30 f fd ["script"] (spF K w (clN F 30) 51 false 1) := by
  obtain ⟨fd, D⟩ := c.def_ 31 (d := dl "law" 39) rfl
  have g := He.glo_ok X G (c.fact 31 (f := .glo "law") rfl)
  have e := hfa.symm.trans g
  cases e
  have b := D.bindsA (ps := ["script"]) (fun _ _ _ _ _ _ us hl => match us, hl with | [_], _ => rfl)
  have b2 : Binds K fd ["script"] [] := D.bindsN (fun _ _ _ _ _ _ us hl => match us, hl with | [_], _ => rfl)
  refine ⟨fd, fun s v => b s [v] rfl, fun base Kb Gb => ?_⟩
  exact (def_okE (F := F) (d := ⟨1, 5, ir_law⟩) (fnT := fnT) (cstT := csT) (n := 29) (blts Kb Gb c) (csts Kb Gb c ct) (QHd.all_fn (fnL := fnL) (fun _ => rfl) (blts Kb Gb c) (csts Kb Gb c ct) (dall Kb Gb c) 29) rfl D g b2 sc_law c_law rfl rfl (by decide)).1
end
end Kw
open PySem PySem.W PySem.Calls PyProof.Rows
theorem Kw.bridge (hl : ∀ ns : List Int, ns.length ≤ 63 → ∃ v', Q.clN Kw.F 30 51 false [.scr (ns.map .int)] = some ((.bool true, false), v')) : PySem.Challenge.rw_quickexact_k88_main_how_often_two_make_a.Holds := by
  w_on; o_law
  refine HandSHeadRun.head_any (r := Kw.R) (q := view Kw.R.prog [39]) (H := Kw.hk) (ob := Kw.ob) (M := 2000) (loose := Kw.names) (d := HandSHeadRun.topDef Kw.R.prog 39) (kwd := []) Kw.ob_eq
    (by kernel_rfl) (fun s => by kernel_rfl) Kw.run (by kernel_rfl) (by kernel_rfl) (by kernel_rfl) (by rfl) (by first | assumption | decide +kernel) (by decide +kernel) ⟨rfl, rfl, rfl, rfl, rfl, by decide +kernel⟩ ?hw ?hc
  case hw => w_witness2
  case hc =>
    refine L2.walk_ofE (l := PySem.Challenge.rw_quickexact_k88_main_how_often_two_make_a) (n := 63) (k := 30) (x := "script") (CX := L2.CX0) rfl (by decide) (by kernel_rfl) ⟨rfl, by decide, by decide⟩ ?F (fun _ _ _ _ z => z)
    intro w mg fa h Y G hmg0
    obtain ⟨K0, KX, c, ct⟩ := Y
    have hmg : mg ("law" : PySem.Str) = some (.ref fa) := by
      have e : (HandSHeadRun.topDef Kw.R.prog 39).name = ("law" : PySem.Str) := by kernel_rfl
      rw [← e]
      exact hmg0
    obtain ⟨fd, hb, hF⟩ := Kw.facts (P := (PySem.Challenge.rw_quickexact_k88_main_how_often_two_make_a).prog) (w := w) KX G hmg c ct
    exact ⟨K0, fd, _, KX, hb, QHd.law_sp hl rfl, hF⟩

end
section
set_option Elab.async false
set_option linter.all false
set_option maxRecDepth 100000
/-! law k88: the walk of one lap -/
namespace QS
open PySem (Str)
open Q
theorem fp88 : FP Kw.F := ⟨rfl, rfl, rfl, rfl, rfl, rfl, rfl, rfl, rfl, rfl, rfl, rfl, rfl, rfl, rfl, rfl, rfl, rfl, rfl, rfl, rfl, rfl, rfl, rfl, rfl, rfl, rfl, rfl⟩
theorem same_ok {F : Nat → Option Fn} (h46 : F 46 = some p_law_same) {n d : Nat} {v w : Val} (hd : d ≤ 8) (hv : dat d v = true) (e : v = w) (hn : d + 1 ≤ n) : clN F n 46 false [v, w] = some ((.bool true, false), .none) := by
  subst e
  have := q_same h46 d v (n - d - 1) hd hv
  have e2 : n - d - 1 + d + 1 = n := by omega
  rw [e2] at this; exact this
theorem ev_same {cl : Cl} {e1 e2 : E} {env env1 env2 : Q.Env} {x y : Val} {k k' : Bool} (h1 : ev cl e1 env = some ((x, k), env1)) (h2 : ev cl e2 env1 = some ((y, k'), env2)) (h : cl 46 false [x, y] = some ((.bool true, false), .none)) : boolR (ev cl (.not (.call 46 (.cons e1 (.cons e2 .nil)))) env) = some (false, env2) := by
  rw [ev_not, ev_call2 h1 h2 h]; rfl
theorem dec_iff {u : Bool} {p : Prop} [Decidable p] (h : u = true ↔ p) : u = decide p := by
  by_cases hp : p
  · rw [h.mpr hp, decide_eq_true hp]
  · rw [decide_eq_false hp]
    cases u with
    | false => rfl
    | true => exact absurd (h.mp rfl) hp
theorem E_iff1 (E : Int) : 0 ≤ E ↔ (0 : Int) < ((E + 1).toNat : Nat) := by omega
theorem E_iff2 (E : Int) : ¬ 0 ≤ E ↔ (((E + 1).toNat : Nat) : Int) = 0 := by omega
theorem ev_chainI {cl : Cl} {env env1 env2 : Q.Env} {a b c : Q.E} {x y z : Int} {k k' k'' : Bool} (ha : ev cl a env = some ((.int x, k), env1)) (hb : ev cl b env1 = some ((.int y, k'), env2)) (hc : ev cl c env2 = some ((.int z, k''), env2)) : ev cl (.chain .le .le a b c) env = some ((.bool (decide (x ≤ y) && decide (y ≤ z)), false), env2) := by
  by_cases h : x ≤ y
  · simp [ha, hb, hc, cmpv, cmpI, h]
  · simp [ha, hb, hc, cmpv, cmpI, h]
theorem valid_int (a b m n N x k : Nat) : (decide ((x : Int) + b * k ≤ m) && (decide ((0 : Int) ≤ (N : Int) - a * (x + b * k)) && decide ((N : Int) - a * (x + b * k) ≤ (b : Int) * n))) = valid a b m n N x k := by
  unfold valid
  have q1 : ((x : Int) + b * k) = ((x + b * k : Nat) : Int) := by simp
  have q3 : (b : Int) * n = ((b * n : Nat) : Int) := by simp
  rw [q1, q3]
  have q2 : (a : Int) * ((x + b * k : Nat) : Int) = ((a * (x + b * k) : Nat) : Int) := by simp
  rw [q2]
  generalize a * (x + b * k) = u
  generalize b * n = w
  generalize x + b * k = z
  rw [Bool.eq_iff_iff]
  simp only [Bool.and_eq_true, decide_eq_true_eq]
  omega
theorem lsb_eq {a b m n : Nat} (ha : 0 < a) (hb : 0 < b) : lsum [(a : Int), 0 - (b : Int)] [(m : Int), n] = -((b : Int) * n) := by
  have h1 : ¬ (a : Int) < 0 := by omega
  have h2 : -(b : Int) < 0 := by omega
  have e : 0 - (b : Int) = -(b : Int) := by omega
  rw [e]
  simp [lsum, h1, h2, Int.neg_mul, hb]
theorem lsc_eq {a b m n : Nat} (ha : 0 < a) (hb : 0 < b) : lsum [0 - (b : Int), -(a : Int)] [(n : Int), m] = -((b : Int) * n) + -((a : Int) * m) := by
  have h1 : -(a : Int) < 0 := by omega
  have h2 : -(b : Int) < 0 := by omega
  have e : 0 - (b : Int) = -(b : Int) := by omega
  rw [e]
  simp [lsum, h1, h2, Int.neg_mul, hb, ha]
def lps (m n : Nat) : List (Str × Int) := [("i", (m : Int)), ("j", (n : Int))]
theorem rws1 {a b m n : Nat} : rows2 [(a : Int), 0] [0, 0 - (b : Int)] (lps m n) = [((a : Int), (m : Int)), (0, (n : Int)), (-0, (m : Int)), (-(0 - (b : Int)), (n : Int))] := rfl
theorem rws2 {a b m n : Nat} : rows2 [0, 0 - (b : Int)] [(a : Int), 0] (lps m n) = [(0, (m : Int)), (0 - (b : Int), (n : Int)), (-(a : Int), (m : Int)), (-0, (n : Int))] := rfl
theorem cf1 {a b m n : Nat} (ha : 0 < a) (hb : 0 < b) : coefs (rows2 [(a : Int), 0] [0, 0 - (b : Int)] (lps m n)) = [(a : Int), b] ∧ bnds (rows2 [(a : Int), 0] [0, 0 - (b : Int)] (lps m n)) = [(m : Int), n] := by
  have h1 : (a : Int) ≠ 0 := by omega
  have h2 : -(0 - (b : Int)) = b := by omega
  have h3 : (b : Int) ≠ 0 := by omega
  have h4 : (-0 : Int) = 0 := rfl
  rw [rws1, h2, h4]
  unfold coefs bnds
  have h1' : a ≠ 0 := by omega
  have h3' : b ≠ 0 := by omega
  simp [List.filter, h1', h3']
theorem cf2 {a b m n : Nat} (ha : 0 < a) (hb : 0 < b) : coefs (rows2 [0, 0 - (b : Int)] [(a : Int), 0] (lps m n)) = [0 - (b : Int), -(a : Int)] ∧ bnds (rows2 [0, 0 - (b : Int)] [(a : Int), 0] (lps m n)) = [(n : Int), m] := by
  rw [rws2]
  generalize hx : 0 - (b : Int) = x
  generalize hy : -(a : Int) = y
  have h1 : x ≠ 0 := by omega
  have h3 : y ≠ 0 := by omega
  have h4 : (-0 : Int) = 0 := rfl
  rw [h4]
  unfold coefs bnds
  simp [List.filter, h1, h3]
theorem fp1 {a b m n : Nat} {x : Int} (ha : 0 < a) (hb : 0 < b) : freeP (rows2 [(a : Int), 0] [0, 0 - (b : Int)] (lps m n)) x = x * (n + 1) * (m + 1) := by
  rw [rws1]
  generalize hx : -(0 - (b : Int)) = y
  have h1 : (a : Int) ≠ 0 := by omega
  have h3 : y ≠ 0 := by omega
  have h1' : a ≠ 0 := by omega
  unfold freeP
  simp [h1', h3]
theorem mirror {a b m n N : Nat} : (∃ i j : Nat, i ≤ n ∧ j ≤ m ∧ ((b * i + a * j : Nat) : Int) = 0 - (N : Int) - (-((b : Int) * n) + -((a : Int) * m))) ↔ ∃ i j : Nat, i ≤ m ∧ j ≤ n ∧ a * i + b * j = N := by
  constructor
  · rintro ⟨i, j, h1, h2, h3⟩
    refine ⟨m - j, n - i, by omega, by omega, ?_⟩
    obtain ⟨p, rfl⟩ : ∃ p, m = j + p := ⟨m - j, by omega⟩
    obtain ⟨q, rfl⟩ : ∃ q, n = i + q := ⟨n - i, by omega⟩
    rw [Nat.add_sub_cancel_left, Nat.add_sub_cancel_left]
    have e1 : (b : Int) * ((i + q : Nat) : Int) = ((b * i : Nat) : Int) + ((b * q : Nat) : Int) := by simp [Int.mul_add]
    have e2 : (a : Int) * ((j + p : Nat) : Int) = ((a * j : Nat) : Int) + ((a * p : Nat) : Int) := by simp [Int.mul_add]
    rw [e1, e2] at h3
    omega
  · rintro ⟨i, j, h1, h2, h3⟩
    refine ⟨n - j, m - i, by omega, by omega, ?_⟩
    obtain ⟨p, rfl⟩ : ∃ p, m = i + p := ⟨m - i, by omega⟩
    obtain ⟨q, rfl⟩ : ∃ q, n = j + q := ⟨n - j, by omega⟩
    rw [Nat.add_sub_cancel_left, Nat.add_sub_cancel_left]
    have e1 : (b : Int) * ((j + q : Nat) : Int) = ((b * j : Nat) : Int) + ((b * q : Nat) : Int) := by simp [Int.mul_add]
    have e2 : (a : Int) * ((i + p : Nat) : Int) = ((a * i : Nat) : Int) + ((a * p : Nat) : Int) := by simp [Int.mul_add]
    rw [e1, e2]
    omega
theorem max_E (E : Int) : (if E + 1 < 0 then 0 else E + 1) = ((E + 1).toNat : Nat) := by split <;> omega
theorem max_1 {h q : Nat} (e : h = max 1 q) : (if (1 : Int) < (q : Nat) then ((q : Nat) : Int) else 1) = (h : Nat) := by subst e; split <;> omega
theorem right88 (m0 : Nat) : RightOk Kw.F (m0 + 8) := by
  have G := fp88
  intro v k hv hk
  -- the draws ahead
  obtain ⟨r1, v1, t1, t1a, t1b, hv1⟩ := q_take (F := Kw.F) (n := m0 + 6) G.h43 (m := 24) hv (by omega) (by omega) (by omega)
  obtain ⟨a, ha⟩ : ∃ a : Nat, (a : Int) = 1 + r1 := ⟨(1 + r1).toNat, by omega⟩
  have ha0 : 0 < a := by omega
  have ha2 : a < 25 := by omega
  let goods : List Nat := (List.range 24).filter fun k => decide (Nat.gcd a (1 + k) = 1)
  have hgne : (goods.map fun (k : Nat) => Val.int (1 + (k : Int))) ≠ [] := by
    have : 0 ∈ goods := by simp [goods]
    intro e
    rw [List.map_eq_nil_iff] at e
    rw [e] at this; cases this
  obtain ⟨r2, x2, v2, t2, t2b, hv2⟩ := q_of (F := Kw.F) (n := m0 + 5) (g := .lst (goods.map fun (k : Nat) => Val.int (1 + (k : Int)))) G.h43 G.h87 hv1 (by omega) (.inl rfl) hgne (by
    rw [List.length_map]
    have h24 : goods.length ≤ 24 := by
      have := List.length_filter_le (fun k => decide (Nat.gcd a (1 + k) = 1)) (List.range 24)
      rw [List.length_range] at this
      exact this
    omega)
  obtain ⟨b, hb0, hb2, hg, rfl⟩ : ∃ b : Nat, 0 < b ∧ b < 25 ∧ Nat.gcd a b = 1 ∧ x2 = .int b := by
    rw [List.getElem?_map, Option.map_eq_some_iff] at t2
    obtain ⟨k, hk, e⟩ := t2
    have hm := List.mem_of_getElem? hk
    simp [goods] at hm
    refine ⟨1 + k, by omega, by omega, hm.2, ?_⟩
    rw [← e]; simp
  have hab : a * b ≤ 24 * 24 := Nat.mul_le_mul (by omega) (by omega)
  have hab0 : 0 < a * b := Nat.mul_pos ha0 hb0
  obtain ⟨r3, v3, t3, t3a, t3b, hv3⟩ := q_take (F := Kw.F) (n := m0 + 6) G.h43 (m := ((3 * (a * b) + 5 : Nat) : Int)) hv2 (by omega) (by omega) (by omega)
  obtain ⟨N, hN⟩ : ∃ N : Nat, (N : Int) = r3 := ⟨r3.toNat, by omega⟩
  subst hN
  obtain ⟨ia, hia1, hia2, hia⟩ := q_contrary (F := Kw.F) (n := m0 + 6) (a := a) (b := b) G.h177 hb0 (by omega) (by omega) (inv_ex ha0 ha2 hb0 hb2 hg)
  obtain ⟨ib, hib1, hib2, hib⟩ := q_contrary (F := Kw.F) (n := m0 + 6) (a := b) (b := a) G.h177 ha0 (by omega) (by omega) (inv_ex hb0 hb2 ha0 ha2 (by rw [Nat.gcd_comm]; exact hg))
  have P : Pp a b N ia ib := ⟨ha0, hb0, hia2, hib2⟩
  obtain ⟨E, hE⟩ := P.diff
  generalize hx : N * ia % b = x at *
  generalize hy : N * ib % a = y at *
  have hxb : x < b := by rw [← hx]; exact Nat.mod_lt _ hb0
  have hya : y < a := by rw [← hy]; exact Nat.mod_lt _ ha0
  have hE' : (N : Int) - (a : Int) * x - (b : Int) * y = (a : Int) * b * E := by simpa using hE
  have hany := P.any (E := E) (by rw [hx, hy]; exact hE)
  have okm : ∀ {u w : Int}, u.natAbs < 100000 → okMul u w = true := fun h => okMul_l (by omega)
  have okr : ∀ {u w : Int}, w.natAbs < 100000 → okMul u w = true := fun h => okMul_r (by omega)
  have hN2 : N < 2000 := by omega
  -- the counts of the bounds that let all
  obtain ⟨hi, hhi⟩ : ∃ hi : Nat, hi = max 1 (N / a) := ⟨_, rfl⟩
  obtain ⟨wi, hwi⟩ : ∃ wi : Nat, wi = max 1 (N / b) := ⟨_, rfl⟩
  have hNa : N / a ≤ N := Nat.div_le_self _ _
  have hNb : N / b ≤ N := Nat.div_le_self _ _
  have hcount : (js a b hi wi N).length = (E + 1).toNat := P.count_all (E := E) (by rw [hx, hy]; exact hE) (by omega) (by omega)
  have hmany := k_many (F := Kw.F) (n := m0 + 5) (N := N) G ha0 ha2 hb0 hb2 (m := hi) (k := wi) (by omega) (by omega) (bv := .lst [.int hi, .int wi]) (.inr rfl)
  rw [hcount] at hmany
  obtain ⟨b1, hb1, hb1i⟩ := k_heap (F := Kw.F) (n := m0 + 4) (N := N) G ha0 ha2 hb0 hb2 (x := true) (y := true)
  obtain ⟨b2', hbb2, hb2i⟩ := k_comes (F := Kw.F) (n := m0 + 3) (N := N) G ha0 ha2 hb0 hb2 hg
  have hcls := k_class (F := Kw.F) (n := m0 + 5) G P ha2 hb2
  rw [hy] at hcls
  -- the draws behind
  obtain ⟨r4, v4, t4, t4a, t4b, hv4⟩ := q_take (F := Kw.F) (n := m0 + 6) G.h43 (m := 60) hv3 (by omega) (by omega) (by omega)
  obtain ⟨r5, v5, t5, t5a, t5b, hv5⟩ := q_take (F := Kw.F) (n := m0 + 6) G.h43 (m := 60) hv4 (by omega) (by omega) (by omega)
  obtain ⟨mm, hmm⟩ : ∃ mm : Nat, (mm : Int) = 1 + r4 := ⟨(1 + r4).toNat, by omega⟩
  obtain ⟨nn, hnn⟩ : ∃ nn : Nat, (nn : Int) = 1 + r5 := ⟨(1 + r5).toNat, by omega⟩
  refine ⟨v5, ?_, hv5.mono (by omega)⟩
  suffices hmain : ∃ env', ex (clN Kw.F (m0 + 7)) Kw.ir__law_right [some (v, .ln), none, none, none, none, none, none, none, none, none, none, none, none, none, none, none, none, none] = some (.ret (.bool true, false), some (v5, .ln) :: env') by
    obtain ⟨env', he⟩ := hmain
    exact cl_retio (F := Kw.F) (n := m0 + 7) (d := ⟨1, 18, Kw.ir__law_right⟩) rfl rfl he
  -- the steps
  have c2 : ev (clN Kw.F (m0 + 7)) (.comp (.var 16) (.name 16) (.range (.cons (.const (.int 1)) (.cons (.const (.int 25)) .nil))) (.cmp .eq (.call 47 (.cons (.lst (.cons (.var 1) (.cons (.var 16) .nil))) .nil)) (.const (.int 1)))) [some (v1, .ln), I a, none, none, none, none, none, none, none, none, none, none, none, none, none, none, none, none] = some ((.lst (goods.map fun (k : Nat) => .int (1 + (k : Int))), true), [some (v1, .ln), I a, none, none, none, none, none, none, none, none, none, none, none, none, none, none, none, none]) := by
    refine ev_compS (fun (k : Nat) => .int (1 + (k : Int))) _ _ (it_range2 ev_const ev_const (by omega) (by omega) (by omega) (by omega) (by omega)) rfl fun k hk => ⟨_, [some (v1, .ln), I a, none, none, none, none, none, none, none, none, none, none, none, none, none, none, I (1 + (k : Int)), none], rfl, ?_, rfl, fun _ => ⟨_, _, rfl, rfl⟩⟩
    have hk24 : k < 24 := List.mem_range.mp hk
    have hq := q_common (F := Kw.F) (n := m0 + 6) (c := .lst [.int a, .int (1 + (k : Int))]) (cs := [(a : Int), 1 + (k : Int)]) G.h47 (.inr rfl) (fun z hz => by
      rcases List.mem_cons.mp hz with rfl | hz
      · omega
      · simp at hz; subst hz; omega)
    have e : gcdL [(a : Int), 1 + (k : Int)] = Nat.gcd a (1 + k) := by
      have : (1 + (k : Int)) = ((1 + k : Nat) : Int) := by omega
      rw [this, gcd2]
    rw [e] at hq
    refine boolR_as (ev_eqI (ev_call1 (ev_lst2 rfl rfl) hq) ev_const) (decide_eq_decide.mpr (by omega))
  have dD : ev (clN Kw.F (m0 + 7)) (.bin .sub (.bin .sub (.var 3) (.bin .mul (.var 1) (.var 4))) (.bin .mul (.var 2) (.var 5))) [some (v3, .ln), I a, I b, I N, I x, I y, none, none, none, none, none, none, none, none, none, none, none, none] = some ((.int ((a : Int) * b * E), false), [some (v3, .ln), I a, I b, I N, I x, I y, none, none, none, none, none, none, none, none, none, none, none, none]) :=
    ev_eqv hE' (ev_sub (ev_sub rfl (ev_mul (okm (by omega)) rfl rfl)) (ev_mul (okm (by omega)) rfl rfl))
  have dab : ev (clN Kw.F (m0 + 7)) (.bin .mul (.var 1) (.var 2)) [some (v3, .ln), I a, I b, I N, I x, I y, none, none, none, none, none, none, none, none, none, none, none, none] = some ((.int ((a : Int) * b), false), [some (v3, .ln), I a, I b, I N, I x, I y, none, none, none, none, none, none, none, none, none, none, none, none]) := ev_mul (okm (by omega)) rfl rfl
  have habI : 0 < (a : Int) * b := by exact_mod_cast hab0
  have habI2 : (a : Int) * b < 1073741824 := by
    have : ((a * b : Nat) : Int) ≤ 576 := by omega
    simp at this
    omega
  have c5 : boolR (ev (clN Kw.F (m0 + 7)) (.cmp .ne (.bin .mod (.bin .sub (.bin .sub (.var 3) (.bin .mul (.var 1) (.var 4))) (.bin .mul (.var 2) (.var 5))) (.bin .mul (.var 1) (.var 2))) (.const (.int 0))) [some (v3, .ln), I a, I b, I N, I x, I y, none, none, none, none, none, none, none, none, none, none, none, none]) = some (false, [some (v3, .ln), I a, I b, I N, I x, I y, none, none, none, none, none, none, none, none, none, none, none, none]) :=
    boolR_of (ev_cmpG (ev_eqv (Int.mul_emod_right _ _) (ev_modE habI dD dab)) ev_const rfl)
  have c6 : ev (clN Kw.F (m0 + 7)) (.bin .add (.bin .fdiv (.bin .sub (.bin .sub (.var 3) (.bin .mul (.var 1) (.var 4))) (.bin .mul (.var 2) (.var 5))) (.bin .mul (.var 1) (.var 2))) (.const (.int 1))) [some (v3, .ln), I a, I b, I N, I x, I y, none, none, none, none, none, none, none, none, none, none, none, none] = some ((.int (E + 1), false), [some (v3, .ln), I a, I b, I N, I x, I y, none, none, none, none, none, none, none, none, none, none, none, none]) :=
    ev_add (ev_eqv (Int.mul_ediv_cancel_left _ (by omega)) (ev_fdivE habI habI2 dD dab)) ev_const
  -- the lists
  obtain ⟨b3, hb3, hb3i⟩ := k_counts (F := Kw.F) (n := m0 + 3) (N := N) G ha0 ha2 hb0 hb2 (by omega) (env := [some (v3, .ln), I a, I b, I N, I x, I y, I ((E + 1).toNat : Nat), I (hi : Nat), I (wi : Nat), none, none, none, none, none, none, none, none, none]) (env1 := [some (v3, .ln), I a, I b, I N, I x, I y, I ((E + 1).toNat : Nat), I (hi : Nat), I (wi : Nat), none, none, none, none, none, none, none, none, none]) (k := false) (e1 := .tup (.cons (.var 2) (.cons (.var 1) .nil))) (e2 := .var 3) (ev_tup2 rfl rfl) rfl
  obtain ⟨got1, hgot1⟩ : ∃ l, l = [Val.bool b1, .bool b2', .bool b3, .int (b * y : Nat)] := ⟨_, rfl⟩
  have c8 : ev (clN Kw.F (m0 + 7)) (.lst (.cons (.call 96 (.cons (.tup (.cons (.var 1) (.cons (.bin .sub (.const (.int 0)) (.var 2)) .nil))) (.cons (.var 3) .nil))) (.cons (.call 83 (.cons (.tup (.cons (.var 1) (.cons (.var 2) .nil))) (.cons (.var 3) .nil))) (.cons (.cmp .isN (.call 110 (.cons (.tup (.cons (.var 2) (.cons (.var 1) .nil))) (.cons (.var 3) .nil))) (.const .none)) (.cons (.call 99 (.cons (.tup (.cons (.var 1) (.cons (.var 2) .nil))) (.cons (.const (.int 0)) (.cons (.var 3) .nil)))) .nil))))) [some (v3, .ln), I a, I b, I N, I x, I y, I ((E + 1).toNat : Nat), I (hi : Nat), I (wi : Nat), none, none, none, none, none, none, none, none, none] = some ((.lst got1, true), [some (v3, .ln), I a, I b, I N, I x, I y, I ((E + 1).toNat : Nat), I (hi : Nat), I (wi : Nat), none, none, none, none, none, none, none, none, none]) := by
    rw [hgot1]
    exact ev_lst4 (ev_call2 (ev_tup2 rfl (ev_sub ev_const rfl)) rfl hb1) (ev_call2 (ev_tup2 rfl rfl) rfl hbb2) hb3 (ev_call3 (ev_tup2 rfl rfl) ev_const rfl hcls)
  have ey : ((N : Int) * (ib : Int)) % (a : Int) = (y : Int) := by rw [← hy]; simp
  have ex' : ((N : Int) * (ia : Int)) % (b : Int) = (x : Int) := by rw [← hx]; simp
  have d1 : b1 = decide ((0 : Int) < ((E + 1).toNat : Nat)) := dec_iff (hb1i.trans (hany.trans (E_iff1 E)))
  have d2 : b2' = decide ((0 : Int) < ((E + 1).toNat : Nat)) := dec_iff (hb2i.trans (hany.trans (E_iff1 E)))
  have d3 : b3 = decide ((((E + 1).toNat : Nat) : Int) = 0) := dec_iff (hb3i.trans ((not_congr hany).trans (E_iff2 E)))
  have c9 : boolR (ev (clN Kw.F (m0 + 7)) (.not (.call 46 (.cons (.var 9) (.cons (.lst (.cons (.cmp .gt (.var 6) (.const (.int 0))) (.cons (.cmp .gt (.var 6) (.const (.int 0))) (.cons (.cmp .eq (.var 6) (.const (.int 0))) (.cons (.bin .mul (.var 2) (.bin .mod (.bin .mul (.var 3) (.call 177 (.cons (.var 2) (.cons (.var 1) .nil)))) (.var 1))) .nil))))) .nil)))) [some (v3, .ln), I a, I b, I N, I x, I y, I ((E + 1).toNat : Nat), I (hi : Nat), I (wi : Nat), some (.lst got1, .ow), none, none, none, none, none, none, none, none]) = some (false, [some (v3, .ln), I a, I b, I N, I x, I y, I ((E + 1).toNat : Nat), I (hi : Nat), I (wi : Nat), some (.lst got1, .sh), none, none, none, none, none, none, none, none]) := by
    refine ev_same (x := .lst got1) (k := false) rfl (ev_lst4 (ev_cmpI rfl ev_const rfl) (ev_cmpI rfl ev_const rfl) (ev_eqI rfl ev_const) (ev_mul (okm (by omega)) rfl (ev_eqv ey (ev_modE (by omega) (ev_mul (okm (by omega)) rfl (ev_call2 rfl rfl hib)) rfl)))) ?_
    refine same_ok (d := 1) G.h46 (by omega) (by rw [hgot1]; rfl) ?_ (by omega)
    rw [hgot1, d1, d2, d3]
    simp
  have c10 : ex (clN Kw.F (m0 + 7)) (.par [10, 11] (.cons (.bin .add (.const (.int 1)) (.callio 43 0 (.cons (.const (.int 60)) .nil))) (.cons (.bin .add (.const (.int 1)) (.callio 43 0 (.cons (.const (.int 60)) .nil))) .nil))) [some (v3, .ln), I a, I b, I N, I x, I y, I ((E + 1).toNat : Nat), I (hi : Nat), I (wi : Nat), some (.lst got1, .sh), none, none, none, none, none, none, none, none] = some (.nx, [some (v5, .ln), I a, I b, I N, I x, I y, I ((E + 1).toNat : Nat), I (hi : Nat), I (wi : Nat), some (.lst got1, .sh), I (mm : Nat), I (nn : Nat), none, none, none, none, none, none]) := by
    have h1 : ev (clN Kw.F (m0 + 7)) (.bin .add (.const (.int 1)) (.callio 43 0 (.cons (.const (.int 60)) .nil))) [some (v3, .ln), I a, I b, I N, I x, I y, I ((E + 1).toNat : Nat), I (hi : Nat), I (wi : Nat), some (.lst got1, .sh), none, none, none, none, none, none, none, none] = some ((.int mm, false), [some (v4, .ln), I a, I b, I N, I x, I y, I ((E + 1).toNat : Nat), I (hi : Nat), I (wi : Nat), some (.lst got1, .sh), none, none, none, none, none, none, none, none]) := ev_eqv hmm.symm (ev_add ev_const (ev_take rfl ev_const t4))
    have h2 : ev (clN Kw.F (m0 + 7)) (.bin .add (.const (.int 1)) (.callio 43 0 (.cons (.const (.int 60)) .nil))) [some (v4, .ln), I a, I b, I N, I x, I y, I ((E + 1).toNat : Nat), I (hi : Nat), I (wi : Nat), some (.lst got1, .sh), none, none, none, none, none, none, none, none] = some ((.int nn, false), [some (v5, .ln), I a, I b, I N, I x, I y, I ((E + 1).toNat : Nat), I (hi : Nat), I (wi : Nat), some (.lst got1, .sh), none, none, none, none, none, none, none, none]) := ev_eqv hnn.symm (ev_add ev_const (ev_take rfl ev_const t5))
    exact (ex_parS h1 h2 rfl rfl).trans rfl
  have c11 : boolR (ev (clN Kw.F (m0 + 7)) (.cmp .gt (.bin .add (.bin .mul (.var 1) (.var 10)) (.bin .mul (.var 2) (.var 11))) (.const (.int 4000))) [some (v5, .ln), I a, I b, I N, I x, I y, I ((E + 1).toNat : Nat), I (hi : Nat), I (wi : Nat), some (.lst got1, .sh), I (mm : Nat), I (nn : Nat), none, none, none, none, none, none]) = some (decide ((4000 : Int) < (a : Int) * mm + (b : Int) * nn), [some (v5, .ln), I a, I b, I N, I x, I y, I ((E + 1).toNat : Nat), I (hi : Nat), I (wi : Nat), some (.lst got1, .sh), I (mm : Nat), I (nn : Nat), none, none, none, none, none, none]) :=
    boolR_of (ev_cmpI (ev_add (ev_mul (okm (by omega)) rfl rfl) (ev_mul (okm (by omega)) rfl rfl)) ev_const rfl)
  -- with bounds
  have hmm60 : mm ≤ 60 := by omega
  have hnn60 : nn ≤ 60 := by omega
  obtain ⟨ll, hll⟩ : ∃ ll : List Nat, ll = (List.range 61).filter (valid a b mm nn N x) := ⟨_, rfl⟩
  obtain ⟨lows, hlows⟩ : ∃ l : List Val, l = ll.map fun (t : Nat) => Val.int (t : Int) := ⟨_, rfl⟩
  have hlen : (js a b mm nn N).length = ll.length := by
    rw [hll, ← hx]
    refine P.count (E := E) (by rw [hx, hy]; exact hE) fun t ht => ?_
    rw [hx] at ht
    unfold valid at ht
    simp only [Bool.and_eq_true, decide_eq_true_eq] at ht
    have : t ≤ b * t := Nat.le_mul_of_pos_left _ hb0
    omega
  have c12 : ev (clN Kw.F (m0 + 7)) (.comp (.var 17) (.name 17) (.range (.cons (.const (.int 61)) .nil)) (.and (.cmp .le (.bin .add (.var 4) (.bin .mul (.var 2) (.var 17))) (.var 10)) (.chain .le .le (.const (.int 0)) (.bin .sub (.var 3) (.bin .mul (.var 1) (.bin .add (.var 4) (.bin .mul (.var 2) (.var 17))))) (.bin .mul (.var 2) (.var 11))))) [some (v5, .ln), I a, I b, I N, I x, I y, I ((E + 1).toNat : Nat), I (hi : Nat), I (wi : Nat), some (.lst got1, .sh), I (mm : Nat), I (nn : Nat), none, none, none, none, none, none] = some ((.lst lows, true), [some (v5, .ln), I a, I b, I N, I x, I y, I ((E + 1).toNat : Nat), I (hi : Nat), I (wi : Nat), some (.lst got1, .sh), I (mm : Nat), I (nn : Nat), none, none, none, none, none, none]) := by
    rw [hlows, hll]
    refine ev_compS (fun (t : Nat) => .int (t : Int)) _ _ (it_range (b := 61) ev_const (by omega)) rfl fun k hk => ⟨_, [some (v5, .ln), I a, I b, I N, I x, I y, I ((E + 1).toNat : Nat), I (hi : Nat), I (wi : Nat), some (.lst got1, .sh), I (mm : Nat), I (nn : Nat), none, none, none, none, none, I (k : Int)], rfl, ?_, rfl, fun _ => ⟨_, _, rfl, rfl⟩⟩
    have hk61 : k < 61 := List.mem_range.mp hk
    have i1 : ev (clN Kw.F (m0 + 7)) (.bin .add (.var 4) (.bin .mul (.var 2) (.var 17))) [some (v5, .ln), I a, I b, I N, I x, I y, I ((E + 1).toNat : Nat), I (hi : Nat), I (wi : Nat), some (.lst got1, .sh), I (mm : Nat), I (nn : Nat), none, none, none, none, none, I (k : Int)] = some ((.int ((x : Int) + b * k), false), [some (v5, .ln), I a, I b, I N, I x, I y, I ((E + 1).toNat : Nat), I (hi : Nat), I (wi : Nat), some (.lst got1, .sh), I (mm : Nat), I (nn : Nat), none, none, none, none, none, I (k : Int)]) := ev_add rfl (ev_mul (okm (by omega)) rfl rfl)
    have i2 : ev (clN Kw.F (m0 + 7)) (.chain .le .le (.const (.int 0)) (.bin .sub (.var 3) (.bin .mul (.var 1) (.bin .add (.var 4) (.bin .mul (.var 2) (.var 17))))) (.bin .mul (.var 2) (.var 11))) [some (v5, .ln), I a, I b, I N, I x, I y, I ((E + 1).toNat : Nat), I (hi : Nat), I (wi : Nat), some (.lst got1, .sh), I (mm : Nat), I (nn : Nat), none, none, none, none, none, I (k : Int)] = some ((.bool (decide ((0 : Int) ≤ (N : Int) - a * (x + b * k)) && decide ((N : Int) - a * (x + b * k) ≤ (b : Int) * nn)), false), [some (v5, .ln), I a, I b, I N, I x, I y, I ((E + 1).toNat : Nat), I (hi : Nat), I (wi : Nat), some (.lst got1, .sh), I (mm : Nat), I (nn : Nat), none, none, none, none, none, I (k : Int)]) :=
      ev_chainI ev_const (ev_sub rfl (ev_mul (okm (by omega)) rfl i1)) (ev_mul (okm (by omega)) rfl rfl)
    exact boolR_as (ev_and' (boolR_of (ev_cmpI i1 rfl rfl)) fun _ => boolR_of i2) (valid_int a b mm nn N x k)
  have hdl : dat 1 (.lst lows) = true := by
    rw [hlows]; simp [dat, List.all_map]
  have hne : lows = [] ↔ ll = [] := by rw [hlows]; simp
  have hlowsl : lows.length = ll.length := by rw [hlows]; simp
  have hjs : (∃ i j : Nat, i ≤ mm ∧ j ≤ nn ∧ a * i + b * j = N) ↔ lows ≠ [] := by
    have h1 : (∃ i j : Nat, i ≤ mm ∧ j ≤ nn ∧ a * i + b * j = N) ↔ js a b mm nn N ≠ [] := by
      constructor
      · rintro ⟨i, j, g1, g2, g3⟩ e
        have := (mem_js (m := mm) ha0).mpr ⟨g2, i, g1, g3⟩
        rw [e] at this; cases this
      · intro h
        obtain ⟨j, r, e⟩ := List.exists_cons_of_ne_nil h
        have : j ∈ js a b mm nn N := by rw [e]; simp
        obtain ⟨g1, i, g2, g3⟩ := (mem_js ha0).mp this
        exact ⟨i, j, g2, g1, g3⟩
    rw [h1, ne_eq, ne_eq, hne, ← List.length_eq_zero_iff, ← List.length_eq_zero_iff, hlen]
  have lsab : lsum [(a : Int), b] [(mm : Int), nn] = 0 := (gl2 (m := mm) (n := nn) ha0 hb0).1
  have lsb : lsum [(a : Int), 0 - (b : Int)] [(mm : Int), nn] = -((b : Int) * nn) := lsb_eq ha0 hb0
  obtain ⟨b4, hb4, hb4i⟩ := k_sum (F := Kw.F) (n := m0 + 5) G (c := a) (d := b) (m := mm) (k := nn) (z := N) (by omega) (by omega) (by omega) (by omega)
  obtain ⟨b5, hb5, hb5i⟩ := k_sum (F := Kw.F) (n := m0 + 5) G (c := a) (d := 0 - (b : Int)) (m := mm) (k := nn) (z := (N : Int) - b * nn) (by omega) (by omega) (by omega) (by omega)
  rw [lsab] at hb4i
  rw [lsb] at hb5i
  have na : ((a : Int)).natAbs = a := by omega
  have nb : ((b : Int)).natAbs = b := by omega
  have nb' : (0 - (b : Int)).natAbs = b := by omega
  rw [na, nb, Int.toNat_natCast, Int.toNat_natCast] at hb4i
  rw [na, nb', Int.toNat_natCast, Int.toNat_natCast] at hb5i
  have d4 : b4 = decide (lows ≠ []) := dec_iff (hb4i.trans (Iff.trans ⟨fun ⟨i, j, g1, g2, g3⟩ => ⟨i, j, g1, g2, by omega⟩, fun ⟨i, j, g1, g2, g3⟩ => ⟨i, j, g1, g2, by omega⟩⟩ hjs))
  have d5 : b5 = decide (lows ≠ []) := dec_iff (hb5i.trans (Iff.trans ⟨fun ⟨i, j, g1, g2, g3⟩ => ⟨i, j, g1, g2, by omega⟩, fun ⟨i, j, g1, g2, g3⟩ => ⟨i, j, g1, g2, by omega⟩⟩ hjs))
  have hmany2 := k_many (F := Kw.F) (n := m0 + 5) (N := N) G ha0 ha2 hb0 hb2 (m := mm) (k := nn) (by omega) (by omega) (bv := .tup [.int mm, .int nn]) (.inl rfl)
  rw [hlen] at hmany2
  obtain ⟨got2, hgot2⟩ : ∃ l, l = [Val.int (ll.length : Int), .bool b4, .bool b5] := ⟨_, rfl⟩
  have c15 : ev (clN Kw.F (m0 + 7)) (.lst (.cons (.call 10 (.cons (.tup (.cons (.var 1) (.cons (.var 2) .nil))) (.cons (.tup (.cons (.var 10) (.cons (.var 11) .nil))) (.cons (.var 3) .nil)))) (.cons (.call 7 (.cons (.tup (.cons (.var 1) (.cons (.var 2) .nil))) (.cons (.tup (.cons (.var 10) (.cons (.var 11) .nil))) (.cons (.var 3) .nil)))) (.cons (.call 7 (.cons (.tup (.cons (.var 1) (.cons (.bin .sub (.const (.int 0)) (.var 2)) .nil))) (.cons (.tup (.cons (.var 10) (.cons (.var 11) .nil))) (.cons (.bin .sub (.var 3) (.bin .mul (.var 2) (.var 11))) .nil)))) .nil)))) [some (v5, .ln), I a, I b, I N, I x, I y, I ((E + 1).toNat : Nat), I (hi : Nat), I (wi : Nat), some (.lst got1, .sh), I (mm : Nat), I (nn : Nat), some (.lst lows, .ow), none, none, none, none, none] = some ((.lst got2, true), [some (v5, .ln), I a, I b, I N, I x, I y, I ((E + 1).toNat : Nat), I (hi : Nat), I (wi : Nat), some (.lst got1, .sh), I (mm : Nat), I (nn : Nat), some (.lst lows, .ow), none, none, none, none, none]) := by
    rw [hgot2]
    exact ev_lst3 (ev_call3 (ev_tup2 rfl rfl) (ev_tup2 rfl rfl) rfl hmany2) (ev_call3 (ev_tup2 rfl rfl) (ev_tup2 rfl rfl) rfl hb4) (ev_call3 (ev_tup2 rfl (ev_sub ev_const rfl)) (ev_tup2 rfl rfl) (ev_sub rfl (ev_mul (okm (by omega)) rfl rfl)) hb5)
  have nlows : ∀ {env env' : Q.Env}, ev (clN Kw.F (m0 + 7)) (.var 12) env = some ((.lst lows, false), env') → ev (clN Kw.F (m0 + 7)) (.cmp .ne (.var 12) (.lst .nil)) env = some ((.bool (decide (lows ≠ [])), false), env') := fun {env env'} h => by
    refine ev_cmpG h (y := .lst []) (k' := true) rfl ?_
    have hd8 : dat8 (.lst lows) = true := dat_le (by omega) hdl
    have hv : veq (.lst lows) (.lst []) = decide (lows = []) := by
      cases lows with
      | nil => rfl
      | cons z r => rfl
    simp only [cmpv, hd8, Bool.true_and, hv]
    by_cases h : lows = [] <;> simp [h, dat8, dat]
  have c16 : boolR (ev (clN Kw.F (m0 + 7)) (.not (.call 46 (.cons (.var 9) (.cons (.lst (.cons (.lenv 12) (.cons (.cmp .ne (.var 12) (.lst .nil)) (.cons (.cmp .ne (.var 12) (.lst .nil)) .nil)))) .nil)))) [some (v5, .ln), I a, I b, I N, I x, I y, I ((E + 1).toNat : Nat), I (hi : Nat), I (wi : Nat), some (.lst got2, .ow), I (mm : Nat), I (nn : Nat), some (.lst lows, .ow), none, none, none, none, none]) = some (false, [some (v5, .ln), I a, I b, I N, I x, I y, I ((E + 1).toNat : Nat), I (hi : Nat), I (wi : Nat), some (.lst got2, .sh), I (mm : Nat), I (nn : Nat), some (.lst lows, .sh), none, none, none, none, none]) := by
    have hl : ev (clN Kw.F (m0 + 7)) (.lenv 12) [some (v5, .ln), I a, I b, I N, I x, I y, I ((E + 1).toNat : Nat), I (hi : Nat), I (wi : Nat), some (.lst got2, .sh), I (mm : Nat), I (nn : Nat), some (.lst lows, .ow), none, none, none, none, none] = some ((.int (ll.length : Int), false), [some (v5, .ln), I a, I b, I N, I x, I y, I ((E + 1).toNat : Nat), I (hi : Nat), I (wi : Nat), some (.lst got2, .sh), I (mm : Nat), I (nn : Nat), some (.lst lows, .ow), none, none, none, none, none]) := by simp [bLen, iR, hlowsl]
    refine ev_same (x := .lst got2) (k := false) (env1 := [some (v5, .ln), I a, I b, I N, I x, I y, I ((E + 1).toNat : Nat), I (hi : Nat), I (wi : Nat), some (.lst got2, .sh), I (mm : Nat), I (nn : Nat), some (.lst lows, .ow), none, none, none, none, none]) rfl (ev_lst3 hl (nlows (env' := [some (v5, .ln), I a, I b, I N, I x, I y, I ((E + 1).toNat : Nat), I (hi : Nat), I (wi : Nat), some (.lst got2, .sh), I (mm : Nat), I (nn : Nat), some (.lst lows, .sh), none, none, none, none, none]) rfl) (nlows rfl)) ?_
    exact same_ok (d := 1) G.h46 (by omega) (by rw [hgot2]; rfl) (by rw [hgot2, d4, d5]) (by omega)
  have hlp : lps mm nn = lps mm nn := rfl
  obtain ⟨cfa, cfb⟩ := cf1 (a := a) (b := b) (m := mm) (n := nn) ha0 hb0
  obtain ⟨cfc, cfd⟩ := cf2 (a := a) (b := b) (m := mm) (n := nn) ha0 hb0
  have c17 : ex (clN Kw.F (m0 + 7)) (.asg 13 (.tup (.cons (.tup (.cons (.const (.str "i")) (.cons (.var 10) .nil))) (.cons (.tup (.cons (.const (.str "j")) (.cons (.var 11) .nil))) .nil)))) [some (v5, .ln), I a, I b, I N, I x, I y, I ((E + 1).toNat : Nat), I (hi : Nat), I (wi : Nat), some (.lst got2, .sh), I (mm : Nat), I (nn : Nat), some (.lst lows, .sh), none, none, none, none, none] = some (.nx, [some (v5, .ln), I a, I b, I N, I x, I y, I ((E + 1).toNat : Nat), I (hi : Nat), I (wi : Nat), some (.lst got2, .sh), I (mm : Nat), I (nn : Nat), some (.lst lows, .sh), some (lv [("i", (mm : Int)), ("j", (nn : Int))], .sh), none, none, none, none]) :=
    (ex_asgS (env1 := [some (v5, .ln), I a, I b, I N, I x, I y, I ((E + 1).toNat : Nat), I (hi : Nat), I (wi : Nat), some (.lst got2, .sh), I (mm : Nat), I (nn : Nat), some (.lst lows, .sh), none, none, none, none, none]) (v := lv (lps mm nn)) (ev_tup2 (ev_tup2 rfl rfl) (ev_tup2 rfl rfl)) rfl).trans rfl
  have c18 : ex (clN Kw.F (m0 + 7)) (.par [14, 15] (.cons (.tup (.cons (.tup (.cons (.var 1) (.cons (.const (.int 0)) .nil))) (.cons (.const (.int 0)) .nil))) (.cons (.tup (.cons (.tup (.cons (.const (.int 0)) (.cons (.bin .sub (.const (.int 0)) (.var 2)) .nil))) (.cons (.var 3) .nil))) .nil))) [some (v5, .ln), I a, I b, I N, I x, I y, I ((E + 1).toNat : Nat), I (hi : Nat), I (wi : Nat), some (.lst got2, .sh), I (mm : Nat), I (nn : Nat), some (.lst lows, .sh), some (lv [("i", (mm : Int)), ("j", (nn : Int))], .sh), none, none, none, none] = some (.nx, [some (v5, .ln), I a, I b, I N, I x, I y, I ((E + 1).toNat : Nat), I (hi : Nat), I (wi : Nat), some (.lst got2, .sh), I (mm : Nat), I (nn : Nat), some (.lst lows, .sh), some (lv [("i", (mm : Int)), ("j", (nn : Int))], .sh), some (pv [(a : Int), 0] 0, .sh), some (pv [0, 0 - (b : Int)] N, .sh), none, none]) := by
    have h1 : ev (clN Kw.F (m0 + 7)) (.tup (.cons (.tup (.cons (.var 1) (.cons (.const (.int 0)) .nil))) (.cons (.const (.int 0)) .nil))) [some (v5, .ln), I a, I b, I N, I x, I y, I ((E + 1).toNat : Nat), I (hi : Nat), I (wi : Nat), some (.lst got2, .sh), I (mm : Nat), I (nn : Nat), some (.lst lows, .sh), some (lv [("i", (mm : Int)), ("j", (nn : Int))], .sh), none, none, none, none] = some ((pv [(a : Int), 0] 0, false), [some (v5, .ln), I a, I b, I N, I x, I y, I ((E + 1).toNat : Nat), I (hi : Nat), I (wi : Nat), some (.lst got2, .sh), I (mm : Nat), I (nn : Nat), some (.lst lows, .sh), some (lv [("i", (mm : Int)), ("j", (nn : Int))], .sh), none, none, none, none]) := ev_tup2 (ev_tup2 rfl rfl) rfl
    have h2 : ev (clN Kw.F (m0 + 7)) (.tup (.cons (.tup (.cons (.const (.int 0)) (.cons (.bin .sub (.const (.int 0)) (.var 2)) .nil))) (.cons (.var 3) .nil))) [some (v5, .ln), I a, I b, I N, I x, I y, I ((E + 1).toNat : Nat), I (hi : Nat), I (wi : Nat), some (.lst got2, .sh), I (mm : Nat), I (nn : Nat), some (.lst lows, .sh), some (lv [("i", (mm : Int)), ("j", (nn : Int))], .sh), none, none, none, none] = some ((pv [0, 0 - (b : Int)] N, false), [some (v5, .ln), I a, I b, I N, I x, I y, I ((E + 1).toNat : Nat), I (hi : Nat), I (wi : Nat), some (.lst got2, .sh), I (mm : Nat), I (nn : Nat), some (.lst lows, .sh), some (lv [("i", (mm : Int)), ("j", (nn : Int))], .sh), none, none, none, none]) := ev_tup2 (ev_tup2 rfl (ev_sub ev_const rfl)) rfl
    exact (ex_parS h1 h2 rfl rfl).trans rfl
  have hmany3 := k_many (F := Kw.F) (n := m0 + 4) (N := N) G ha0 ha2 hb0 hb2 (m := mm) (k := nn) (by omega) (by omega) (bv := .tup [.int mm, .int nn]) (.inl rfl)
  rw [hlen] at hmany3
  have q61 : clN Kw.F (m0 + 7) 61 false [lv (lps mm nn), pv [(a : Int), 0] 0, pv [0, 0 - (b : Int)] N] = some ((.int ((ll.length : Int) * (nn + 1) * (mm + 1)), false), .none) := by
    have := q_how_many_touchings (F := Kw.F) (n := m0 + 4) (loops := lps mm nn) (o := [(a : Int), 0]) (t := [0, 0 - (b : Int)]) (k := 0) (l := N) G.h57 G.h58 G.h61 (by simp [lps]) (x := ll.length) (fun q hq => by
      rw [rws1] at hq
      simp only [List.mem_cons, List.not_mem_nil, or_false] at hq
      rcases hq with rfl | rfl | rfl | rfl
      · exact ⟨by simp, by simp; omega⟩
      · exact ⟨by simp, by simp; omega⟩
      · exact ⟨by simp, by simp; omega⟩
      · exact ⟨by simp, by simp; omega⟩) (by
      rw [cfa, cfb, Int.sub_zero]
      exact hmany3)
    rw [fp1 ha0 hb0] at this
    exact this
  obtain ⟨b6, hb6, hb6i⟩ := k_sum (F := Kw.F) (n := m0 + 4) G (c := 0 - (b : Int)) (d := -(a : Int)) (m := nn) (k := mm) (z := 0 - (N : Int)) (by omega) (by omega) (by omega) (by omega)
  rw [lsc_eq ha0 hb0, nb', show (-(a : Int)).natAbs = a by omega, Int.toNat_natCast, Int.toNat_natCast] at hb6i
  have d6 : b6 = decide (lows ≠ []) := dec_iff (hb6i.trans (mirror.trans hjs))
  have q59 : clN Kw.F (m0 + 7) 59 false [lv (lps mm nn), pv [0, 0 - (b : Int)] N, pv [(a : Int), 0] 0] = some ((.bool b6, false), .none) := by
    refine q_touch (F := Kw.F) (n := m0 + 4) (loops := lps mm nn) (o := [0, 0 - (b : Int)]) (t := [(a : Int), 0]) (k := N) (l := 0) G.h57 G.h58 G.h59 (by simp [lps]) ?_
    rw [cfc, cfd]
    exact hb6
  have c19 : ev (clN Kw.F (m0 + 7)) (.call 46 (.cons (.lst (.cons (.call 61 (.cons (.var 13) (.cons (.var 14) (.cons (.var 15) .nil)))) (.cons (.call 59 (.cons (.var 13) (.cons (.var 15) (.cons (.var 14) .nil)))) .nil))) (.cons (.lst (.cons (.bin .mul (.bin .mul (.lenv 12) (.bin .add (.var 10) (.const (.int 1)))) (.bin .add (.var 11) (.const (.int 1)))) (.cons (.cmp .ne (.var 12) (.lst .nil)) .nil))) .nil))) [some (v5, .ln), I a, I b, I N, I x, I y, I ((E + 1).toNat : Nat), I (hi : Nat), I (wi : Nat), some (.lst got2, .sh), I (mm : Nat), I (nn : Nat), some (.lst lows, .sh), some (lv [("i", (mm : Int)), ("j", (nn : Int))], .sh), some (pv [(a : Int), 0] 0, .sh), some (pv [0, 0 - (b : Int)] N, .sh), none, none] = some ((.bool true, false), [some (v5, .ln), I a, I b, I N, I x, I y, I ((E + 1).toNat : Nat), I (hi : Nat), I (wi : Nat), some (.lst got2, .sh), I (mm : Nat), I (nn : Nat), some (.lst lows, .sh), some (lv [("i", (mm : Int)), ("j", (nn : Int))], .sh), some (pv [(a : Int), 0] 0, .sh), some (pv [0, 0 - (b : Int)] N, .sh), none, none]) := by
    have hl : ev (clN Kw.F (m0 + 7)) (.lenv 12) [some (v5, .ln), I a, I b, I N, I x, I y, I ((E + 1).toNat : Nat), I (hi : Nat), I (wi : Nat), some (.lst got2, .sh), I (mm : Nat), I (nn : Nat), some (.lst lows, .sh), some (lv [("i", (mm : Int)), ("j", (nn : Int))], .sh), some (pv [(a : Int), 0] 0, .sh), some (pv [0, 0 - (b : Int)] N, .sh), none, none] = some ((.int (ll.length : Int), false), [some (v5, .ln), I a, I b, I N, I x, I y, I ((E + 1).toNat : Nat), I (hi : Nat), I (wi : Nat), some (.lst got2, .sh), I (mm : Nat), I (nn : Nat), some (.lst lows, .sh), some (lv [("i", (mm : Int)), ("j", (nn : Int))], .sh), some (pv [(a : Int), 0] 0, .sh), some (pv [0, 0 - (b : Int)] N, .sh), none, none]) := by simp [bLen, iR, hlowsl]
    have hll61 : ll.length ≤ 61 := by
      rw [hll]
      have := List.length_filter_le (valid a b mm nn N x) (List.range 61)
      rwa [List.length_range] at this
    refine ev_call2 (ev_lst2 (ev_call3 rfl rfl rfl q61) (ev_call3 rfl rfl rfl q59)) (ev_lst2 (ev_mul (okr (by omega)) (ev_mul (okm (by omega)) hl (ev_add rfl rfl)) (ev_add rfl rfl)) (nlows rfl)) ?_
    refine same_ok (d := 1) G.h46 (by omega) rfl ?_ (by omega)
    rw [d6, Int.mul_assoc, Int.mul_assoc, Int.mul_comm ((nn : Int) + 1)]
  -- the walk
  have g1 : ex (clN Kw.F (m0 + 7)) (.asg 1 (.bin .add (.const (.int 1)) (.callio 43 0 (.cons (.const (.int 24)) .nil)))) [some (v, .ln), none, none, none, none, none, none, none, none, none, none, none, none, none, none, none, none, none] = some (.nx, [some (v1, .ln), I a, none, none, none, none, none, none, none, none, none, none, none, none, none, none, none, none]) := by
    have h1 : ev (clN Kw.F (m0 + 7)) (.bin .add (.const (.int 1)) (.callio 43 0 (.cons (.const (.int 24)) .nil))) [some (v, .ln), none, none, none, none, none, none, none, none, none, none, none, none, none, none, none, none, none] = some ((.int a, false), [some (v1, .ln), none, none, none, none, none, none, none, none, none, none, none, none, none, none, none, none, none]) := ev_eqv ha.symm (ev_add ev_const (ev_take rfl ev_const t1))
    exact (ex_asgS h1 rfl).trans rfl
  have g2 : ex (clN Kw.F (m0 + 7)) (.asg 2 (.callio 87 0 (.cons (.comp (.var 16) (.name 16) (.range (.cons (.const (.int 1)) (.cons (.const (.int 25)) .nil))) (.cmp .eq (.call 47 (.cons (.lst (.cons (.var 1) (.cons (.var 16) .nil))) .nil)) (.const (.int 1)))) .nil))) [some (v1, .ln), I a, none, none, none, none, none, none, none, none, none, none, none, none, none, none, none, none] = some (.nx, [some (v2, .ln), I a, I b, none, none, none, none, none, none, none, none, none, none, none, none, none, none, none]) := by
    exact (ex_asgS (env1 := [some (v2, .ln), I a, none, none, none, none, none, none, none, none, none, none, none, none, none, none, none, none]) (ev_ofio rfl c2 t2b) rfl).trans rfl
  have g3 : ex (clN Kw.F (m0 + 7)) (.asg 3 (.callio 43 0 (.cons (.bin .add (.bin .mul (.bin .mul (.const (.int 3)) (.var 1)) (.var 2)) (.const (.int 5))) .nil))) [some (v2, .ln), I a, I b, none, none, none, none, none, none, none, none, none, none, none, none, none, none, none] = some (.nx, [some (v3, .ln), I a, I b, I N, none, none, none, none, none, none, none, none, none, none, none, none, none, none]) := by
    have h1 : ev (clN Kw.F (m0 + 7)) (.bin .add (.bin .mul (.bin .mul (.const (.int 3)) (.var 1)) (.var 2)) (.const (.int 5))) [some (v2, .ln), I a, I b, none, none, none, none, none, none, none, none, none, none, none, none, none, none, none] = some ((.int ((3 * (a * b) + 5 : Nat) : Int), false), [some (v2, .ln), I a, I b, none, none, none, none, none, none, none, none, none, none, none, none, none, none, none]) :=
      ev_eqv (y := ((3 * (a * b) + 5 : Nat) : Int)) (by simp [Int.mul_assoc]) (ev_add (ev_mul (okr (by omega)) (ev_mul (okm (by omega)) ev_const rfl) rfl) ev_const)
    exact (ex_asgS (env1 := [some (v3, .ln), I a, I b, none, none, none, none, none, none, none, none, none, none, none, none, none, none, none]) (ev_take rfl h1 t3) rfl).trans rfl
  have g4 : ex (clN Kw.F (m0 + 7)) (.par [4, 5] (.cons (.bin .mod (.bin .mul (.var 3) (.call 177 (.cons (.var 1) (.cons (.var 2) .nil)))) (.var 2)) (.cons (.bin .mod (.bin .mul (.var 3) (.call 177 (.cons (.var 2) (.cons (.var 1) .nil)))) (.var 1)) .nil))) [some (v3, .ln), I a, I b, I N, none, none, none, none, none, none, none, none, none, none, none, none, none, none] = some (.nx, [some (v3, .ln), I a, I b, I N, I x, I y, none, none, none, none, none, none, none, none, none, none, none, none]) := by
    have h1 : ev (clN Kw.F (m0 + 7)) (.bin .mod (.bin .mul (.var 3) (.call 177 (.cons (.var 1) (.cons (.var 2) .nil)))) (.var 2)) [some (v3, .ln), I a, I b, I N, none, none, none, none, none, none, none, none, none, none, none, none, none, none] = some ((.int x, false), [some (v3, .ln), I a, I b, I N, none, none, none, none, none, none, none, none, none, none, none, none, none, none]) := ev_eqv ex' (ev_modE (by omega) (ev_mul (okm (by omega)) rfl (ev_call2 rfl rfl hia)) rfl)
    have h2 : ev (clN Kw.F (m0 + 7)) (.bin .mod (.bin .mul (.var 3) (.call 177 (.cons (.var 2) (.cons (.var 1) .nil)))) (.var 1)) [some (v3, .ln), I a, I b, I N, none, none, none, none, none, none, none, none, none, none, none, none, none, none] = some ((.int y, false), [some (v3, .ln), I a, I b, I N, none, none, none, none, none, none, none, none, none, none, none, none, none, none]) := ev_eqv ey (ev_modE (by omega) (ev_mul (okm (by omega)) rfl (ev_call2 rfl rfl hib)) rfl)
    exact (ex_parS h1 h2 rfl rfl).trans rfl
  have g6 := (ex_asgS (i := 6) c6 rfl).trans (show _ = some (Q.Flow.nx, [some (v3, .ln), I a, I b, I N, I x, I y, I (E + 1), none, none, none, none, none, none, none, none, none, none, none]) from rfl)
  have g7 : ex (clN Kw.F (m0 + 7)) (.asg 6 (.bcall .max (.cons (.lst (.cons (.var 6) (.cons (.const (.int 0)) .nil))) .nil))) [some (v3, .ln), I a, I b, I N, I x, I y, I (E + 1), none, none, none, none, none, none, none, none, none, none, none] = some (.nx, [some (v3, .ln), I a, I b, I N, I x, I y, I ((E + 1).toNat : Nat), none, none, none, none, none, none, none, none, none, none, none]) := by
    have h1 : ev (clN Kw.F (m0 + 7)) (.bcall .max (.cons (.lst (.cons (.var 6) (.cons (.const (.int 0)) .nil))) .nil)) [some (v3, .ln), I a, I b, I N, I x, I y, I (E + 1), none, none, none, none, none, none, none, none, none, none, none] = some ((.int ((E + 1).toNat : Nat), false), [some (v3, .ln), I a, I b, I N, I x, I y, I (E + 1), none, none, none, none, none, none, none, none, none, none, none]) := ev_eqv (max_E E) (ev_max1 rfl ev_const)
    exact (ex_asgS h1 rfl).trans rfl
  have g8 : ex (clN Kw.F (m0 + 7)) (.par [7, 8] (.cons (.bcall .max (.cons (.lst (.cons (.const (.int 1)) (.cons (.bin .fdiv (.var 3) (.var 1)) .nil))) .nil)) (.cons (.bcall .max (.cons (.lst (.cons (.const (.int 1)) (.cons (.bin .fdiv (.var 3) (.var 2)) .nil))) .nil)) .nil))) [some (v3, .ln), I a, I b, I N, I x, I y, I ((E + 1).toNat : Nat), none, none, none, none, none, none, none, none, none, none, none] = some (.nx, [some (v3, .ln), I a, I b, I N, I x, I y, I ((E + 1).toNat : Nat), I (hi : Nat), I (wi : Nat), none, none, none, none, none, none, none, none, none]) := by
    have q1 : (N : Int) / (a : Int) = ((N / a : Nat) : Int) := by simp
    have q2 : (N : Int) / (b : Int) = ((N / b : Nat) : Int) := by simp
    have h1 : ev (clN Kw.F (m0 + 7)) (.bcall .max (.cons (.lst (.cons (.const (.int 1)) (.cons (.bin .fdiv (.var 3) (.var 1)) .nil))) .nil)) [some (v3, .ln), I a, I b, I N, I x, I y, I ((E + 1).toNat : Nat), none, none, none, none, none, none, none, none, none, none, none] = some ((.int hi, false), [some (v3, .ln), I a, I b, I N, I x, I y, I ((E + 1).toNat : Nat), none, none, none, none, none, none, none, none, none, none, none]) := ev_eqv (max_1 hhi) (ev_max1 ev_const (ev_eqv q1 (ev_fdivE (by omega) (by omega) rfl rfl)))
    have h2 : ev (clN Kw.F (m0 + 7)) (.bcall .max (.cons (.lst (.cons (.const (.int 1)) (.cons (.bin .fdiv (.var 3) (.var 2)) .nil))) .nil)) [some (v3, .ln), I a, I b, I N, I x, I y, I ((E + 1).toNat : Nat), none, none, none, none, none, none, none, none, none, none, none] = some ((.int wi, false), [some (v3, .ln), I a, I b, I N, I x, I y, I ((E + 1).toNat : Nat), none, none, none, none, none, none, none, none, none, none, none]) := ev_eqv (max_1 hwi) (ev_max1 ev_const (ev_eqv q2 (ev_fdivE (by omega) (by omega) rfl rfl)))
    exact (ex_parS h1 h2 rfl rfl).trans rfl
  have g9a : boolR (ev (clN Kw.F (m0 + 7)) (.not (.call 46 (.cons (.call 10 (.cons (.tup (.cons (.var 1) (.cons (.var 2) .nil))) (.cons (.lst (.cons (.var 7) (.cons (.var 8) .nil))) (.cons (.var 3) .nil)))) (.cons (.var 6) .nil)))) [some (v3, .ln), I a, I b, I N, I x, I y, I ((E + 1).toNat : Nat), I (hi : Nat), I (wi : Nat), none, none, none, none, none, none, none, none, none]) = some (false, [some (v3, .ln), I a, I b, I N, I x, I y, I ((E + 1).toNat : Nat), I (hi : Nat), I (wi : Nat), none, none, none, none, none, none, none, none, none]) :=
    ev_same (ev_call3 (ev_tup2 rfl rfl) (ev_lst2 rfl rfl) rfl hmany) rfl (same_ok (d := 0) G.h46 (by omega) rfl rfl (by omega))
  have g9b : ∃ p, boolR (ev (clN Kw.F (m0 + 7)) (.and (.cmp .le (.var 7) (.const (.int 60))) (.and (.cmp .le (.var 8) (.const (.int 60))) (.cmp .le (.bin .add (.bin .mul (.var 1) (.var 7)) (.bin .mul (.var 2) (.var 8))) (.const (.int 4000))))) [some (v3, .ln), I a, I b, I N, I x, I y, I ((E + 1).toNat : Nat), I (hi : Nat), I (wi : Nat), none, none, none, none, none, none, none, none, none]) = some (p, [some (v3, .ln), I a, I b, I N, I x, I y, I ((E + 1).toNat : Nat), I (hi : Nat), I (wi : Nat), none, none, none, none, none, none, none, none, none]) :=
    ⟨_, boolR_of (ev_and' (boolR_of (ev_cmpI rfl ev_const rfl)) fun _ => boolR_of (ev_and' (boolR_of (ev_cmpI rfl ev_const rfl)) fun _ => boolR_of (ev_cmpI (ev_add (ev_mul (okm (by omega)) rfl rfl) (ev_mul (okm (by omega)) rfl rfl)) ev_const rfl)))⟩
  obtain ⟨p9, g9b⟩ := g9b
  have g10 := (ex_asgO (i := 9) c8 rfl).trans (show _ = some (Q.Flow.nx, [some (v3, .ln), I a, I b, I N, I x, I y, I ((E + 1).toNat : Nat), I (hi : Nat), I (wi : Nat), some (.lst got1, .ow), none, none, none, none, none, none, none, none]) from rfl)
  have step : ∀ {r : Option (Q.Flow × Q.Env)}, ex (clN Kw.F (m0 + 7)) (.seq (.ite (.cmp .gt (.bin .add (.bin .mul (.var 1) (.var 10)) (.bin .mul (.var 2) (.var 11))) (.const (.int 4000))) (.ret (.const (.bool true))) .skip) (.seq (.asg 12 (.comp (.var 17) (.name 17) (.range (.cons (.const (.int 61)) .nil)) (.and (.cmp .le (.bin .add (.var 4) (.bin .mul (.var 2) (.var 17))) (.var 10)) (.chain .le .le (.const (.int 0)) (.bin .sub (.var 3) (.bin .mul (.var 1) (.bin .add (.var 4) (.bin .mul (.var 2) (.var 17))))) (.bin .mul (.var 2) (.var 11)))))) (.seq (.asg 9 (.lst (.cons (.call 10 (.cons (.tup (.cons (.var 1) (.cons (.var 2) .nil))) (.cons (.tup (.cons (.var 10) (.cons (.var 11) .nil))) (.cons (.var 3) .nil)))) (.cons (.call 7 (.cons (.tup (.cons (.var 1) (.cons (.var 2) .nil))) (.cons (.tup (.cons (.var 10) (.cons (.var 11) .nil))) (.cons (.var 3) .nil)))) (.cons (.call 7 (.cons (.tup (.cons (.var 1) (.cons (.bin .sub (.const (.int 0)) (.var 2)) .nil))) (.cons (.tup (.cons (.var 10) (.cons (.var 11) .nil))) (.cons (.bin .sub (.var 3) (.bin .mul (.var 2) (.var 11))) .nil)))) .nil))))) (.seq (.ite (.not (.call 46 (.cons (.var 9) (.cons (.lst (.cons (.lenv 12) (.cons (.cmp .ne (.var 12) (.lst .nil)) (.cons (.cmp .ne (.var 12) (.lst .nil)) .nil)))) .nil)))) (.ret (.const (.bool false))) .skip) (.seq (.asg 13 (.tup (.cons (.tup (.cons (.const (.str "i")) (.cons (.var 10) .nil))) (.cons (.tup (.cons (.const (.str "j")) (.cons (.var 11) .nil))) .nil)))) (.seq (.par [14, 15] (.cons (.tup (.cons (.tup (.cons (.var 1) (.cons (.const (.int 0)) .nil))) (.cons (.const (.int 0)) .nil))) (.cons (.tup (.cons (.tup (.cons (.const (.int 0)) (.cons (.bin .sub (.const (.int 0)) (.var 2)) .nil))) (.cons (.var 3) .nil))) .nil))) (.ret (.call 46 (.cons (.lst (.cons (.call 61 (.cons (.var 13) (.cons (.var 14) (.cons (.var 15) .nil)))) (.cons (.call 59 (.cons (.var 13) (.cons (.var 15) (.cons (.var 14) .nil)))) .nil))) (.cons (.lst (.cons (.bin .mul (.bin .mul (.lenv 12) (.bin .add (.var 10) (.const (.int 1)))) (.bin .add (.var 11) (.const (.int 1)))) (.cons (.cmp .ne (.var 12) (.lst .nil)) .nil))) .nil)))))))))) [some (v5, .ln), I a, I b, I N, I x, I y, I ((E + 1).toNat : Nat), I (hi : Nat), I (wi : Nat), some (.lst got1, .sh), I (mm : Nat), I (nn : Nat), none, none, none, none, none, none] = r → ex (clN Kw.F (m0 + 7)) Kw.ir__law_right [some (v, .ln), none, none, none, none, none, none, none, none, none, none, none, none, none, none, none, none, none] = r := fun h =>
    ex_seq' g1 (ex_seq' g2 (ex_seq' g3 (ex_seq' g4 (ex_seq' (ex_if c5 (fun h => by cases h) fun _ => ex_skip) (ex_seq' g6 (ex_seq' g7 (ex_seq' g8 (ex_seq' (ex_if g9b (fun _ => ex_if g9a (fun h => by cases h) fun _ => ex_skip) fun _ => ex_skip) (ex_seq' g10 (ex_seq' (ex_if c9 (fun h => by cases h) fun _ => ex_skip) (ex_seq' c10 h)))))))))))
  by_cases hbig : (4000 : Int) < (a : Int) * mm + (b : Int) * nn
  · exact ⟨_, step (ex_seqR (ex_if (r := some (.ret (.bool true, false), [some (v5, .ln), I a, I b, I N, I x, I y, I ((E + 1).toNat : Nat), I (hi : Nat), I (wi : Nat), some (.lst got1, .sh), I (mm : Nat), I (nn : Nat), none, none, none, none, none, none])) c11 (fun _ => ex_ret' rfl ev_const) fun h => by simp [hbig] at h))⟩
  · have g12 := (ex_asgO (i := 12) c12 rfl).trans (show _ = some (Q.Flow.nx, [some (v5, .ln), I a, I b, I N, I x, I y, I ((E + 1).toNat : Nat), I (hi : Nat), I (wi : Nat), some (.lst got1, .sh), I (mm : Nat), I (nn : Nat), some (.lst lows, .ow), none, none, none, none, none]) from rfl)
    have g15 := (ex_asgO (i := 9) c15 rfl).trans (show _ = some (Q.Flow.nx, [some (v5, .ln), I a, I b, I N, I x, I y, I ((E + 1).toNat : Nat), I (hi : Nat), I (wi : Nat), some (.lst got2, .ow), I (mm : Nat), I (nn : Nat), some (.lst lows, .ow), none, none, none, none, none]) from rfl)
    refine ⟨_, step (ex_seq' (ex_if c11 (fun h => by simp [hbig] at h) fun _ => ex_skip) (ex_seq' g12 (ex_seq' g15 (ex_seq' (ex_if c16 (fun h => by cases h) fun _ => ex_skip) (ex_seq' c17 (ex_seq' c18 (ex_ret' rfl c19)))))))⟩
theorem law88 (ns : List Int) (hl : ns.length ≤ 63) : ∃ v', clN Kw.F 30 51 false [.scr (ns.map .int)] = some ((.bool true, false), v') :=
  ⟨.none, q_law (F := Kw.F) (n := 28) (c := 11900088) (laps := 8) (e := .const (.bool true)) rfl rfl rfl (by omega) (right88 21) rfl (fun env _ => ⟨env, ev_const⟩) ns hl⟩
theorem holds88 : PySem.Challenge.rw_quickexact_k88_main_how_often_two_make_a.Holds := Kw.bridge law88
end QS

end
set_option maxRecDepth 100000
theorem PySem.Challenge.cw_quickexact_k88_main_how_often_two_make_a_holds : PySem.Challenge.rw_quickexact_k88_main_how_often_two_make_a.Holds := by
  exact QS.holds88
