import PyProof.Rows.All
import Wide.All
import OpenK.AllK
import Wide.FinOn
import HandS.ForMost
import HandS.ForExc
import HandS.ExcInit
import HandS.ExcField
import HandS.IsInst
import HandS.Walk
import HandS.Zip
import HandS.Flow
import HandS.Small
import HandS.Conv
import HandS.CallSlots
import HandS.TryMany
import PyProof.NeKinds
import HandS.TupAny
import HandS.SortInts
import HandS.More
import HandS.RaiseMore
import HandS.Text
import KE.IntTextLaws
import KE.KRevSl
import HandS.Codes
import KE.GoesEnum
import HandS.Strs
import HandS.Lambda
import KE.KDictSum
import PyProof.TupleOfGen
import HandS.Sort
import KE.SortKeyHeap
import HandS.SortKw
import HandS.Ends
import HandS.WordsExc
import HandS.HeadHook1
import PySem.Challenge.RW_failslack_k78_texts_of_series
set_option Elab.async false
set_option linter.all false
set_option maxRecDepth 100000
set_option maxHeartbeats 4000000
set_option autoImplicit false
/-! EvSem: a small functional reading of Python: values, an abstract heap by places, expressions, statements. No program in sight. -/
namespace Ev

inductive U where
  | non | bl (b : Bool) | int (i : Int) | str (s : List Nat) | tup (xs : List U) | ref (n : Nat)
  | exc (c : Nat) (xs : List U) | fn (k : Nat)
  deriving Inhabited

abbrev DK := Sum Int (List Nat)
inductive AO where
  | lst (xs : List U) | dic (kvs : List (DK × U)) | ins (c : Nat) (fs : List (Nat × U)) | frz (o : AO)
  deriving Inhabited

abbrev AH := List AO
abbrev Env := List (Option U)

inductive R (α : Type) where
  | ok (a : α) (h : AH) | exc (c : Nat) (xs : List U) (h : AH) | bad

@[simp] def R.bind {α β : Type} (r : R α) (f : α → AH → R β) : R β :=
  match r with
  | .ok a h => f a h
  | .exc c xs h => .exc c xs h
  | .bad => .bad

inductive F where
  | nx (e : Env) (h : AH) | rt (u : U) (h : AH) | bk (e : Env) (h : AH) | ct (e : Env) (h : AH)
  | exc (c : Nat) (xs : List U) (e : Env) (h : AH) | bad

/-- the most that a list or a text may hold here -/
abbrev lim : Nat := 100000

inductive BOp where | add | sub | mul | fdiv | mod | pow | step
inductive COp where | eq | ne | lt | le | gt | ge | inn | nin | is | isnot
inductive Ty where | int | bool | str | list | tuple | dict | cls (c : Nat)
/-- calls of built-in names, by values -/
inductive BI where
  | len | max | min | maxl | minl | maxd | sum | all | any | str | int | abs | list | tuple | dict | divmod
  | sorted | sortedk (f : Nat) | lenset | sortedset | tupvals | listvals | listitems | sumvals
/-- methods of built-in types -/
inductive BM where
  | append | extend | join | get | pop | index | split | clear

inductive P where
  | name (i : Nat) | tup (ps : P) | nil | cons (a b : P)

inductive E where
  | nil | cons (a b : E)
  | var (i : Nat) | con (u : U) | glb (g : Nat) | fnv (k : Nat)
  | bin (op : BOp) (a b : E) | neg (a : E)
  | cmp (op : COp) (a b : E) | chain (o1 o2 : COp) (a b c : E)
  | not (a : E) | and (es : E) | or (es : E) | ife (t a b : E)
  | tup (es : E) | lst (es : E) | dic (ks vs : E)
  | ix (a i : E) | sl (a lo hi : E)
  | call (f : Nat) (es : E) | mk (c : Nat) (es : E) | meth (o : E) (m : Nat) (es : E) | fld (o : E) (f : Nat)
  | bi (b : BI) (es : E) | bm (b : BM) (o es : E) | isi (a : E) (ts : List Ty)
  | lc (elt : E) (p : P) (it c : E) (own : List Nat)
  | iseq (e : E) | irange1 (e : E) | irange2 (a b : E) | ienum (e : E) | izip (a b : E) | iitems (d : E) | ivalues (d : E) | ikeys (d : E)

inductive S where
  | nil | cons (a b : S)
  | asg (p : P) (e : E) | asub (o i e : E) | afld (o : E) (f : Nat) (e : E)
  | aug (i : Nat) (op : BOp) (e : E) | augsub (o i : E) (op : BOp) (e : E) | augfld (o : E) (f : Nat) (op : BOp) (e : E)
  | ex (e : E) | ret (e : E) | ret0
  | ifs (t : E) (a b : S) | for (p : P) (it : E) (b : S) | whl (t : E) (b : S)
  | rai (c : Nat) (es : E) | tri (b hs : S) | hd (c : Nat) (slot : Option Nat) (b : S)
  | brk | cnt | pas

structure Tab where
  glb : List U
  mt : Nat → Nat → Option Nat
  ini : Nat → Option Nat
  xf : Nat → List Nat
  sub : Nat → Nat → Bool
  fl : Nat → Nat → Bool
  isb : Nat → Nat → Option Bool

/-! ### plain pieces -/
def lstAt (h : AH) (n : Nat) : Option (List U) :=
  match h[n]? with
  | some (.lst xs) => some xs
  | some (.frz (.lst xs)) => some xs
  | _ => none
def dicAt (h : AH) (n : Nat) : Option (List (DK × U)) :=
  match h[n]? with
  | some (.dic kvs) => some kvs
  | some (.frz (.dic kvs)) => some kvs
  | _ => none
/-- a list that may be written -/
def lstW (h : AH) (n : Nat) : Option (List U) :=
  match h[n]? with
  | some (.lst xs) => some xs
  | _ => none
def dicW (h : AH) (n : Nat) : Option (List (DK × U)) :=
  match h[n]? with
  | some (.dic kvs) => some kvs
  | _ => none
def insAt (h : AH) (n : Nat) : Option (Nat × List (Nat × U)) :=
  match h[n]? with
  | some (.ins c fs) => some (c, fs)
  | _ => none

def ixN (n : Nat) (i : Int) : Option Nat := if 0 ≤ i then (if i < n then some i.toNat else none) else if -(n : Int) ≤ i then some (i + n).toNat else none
def sIx (n d : Nat) : Option Int → Nat
  | none => d
  | some v => if v < 0 then (v + (n : Int)).toNat else min v.toNat n
def cut {α : Type} (xs : List α) (lo hi : Option Int) : List α := (xs.drop (sIx xs.length 0 lo)).take (sIx xs.length xs.length hi - sIx xs.length 0 lo)

def keyOf : U → Option DK
  | .int i => some (.inl i)
  | .str s => some (.inr s)
  | _ => none
def keyU : DK → U
  | .inl i => .int i
  | .inr s => .str s
def valD (kvs : List (DK × U)) (k : DK) : Option U := (kvs.find? fun kv => decide (kv.1 = k)).map (·.2)
def putD (kvs : List (DK × U)) (k : DK) (v : U) : List (DK × U) :=
  if (kvs.any fun kv => decide (kv.1 = k)) = true then kvs.map (fun kv => if kv.1 = k then (kv.1, v) else kv) else kvs ++ [(k, v)]
def dropD (kvs : List (DK × U)) (k : DK) : List (DK × U) := kvs.filter fun kv => decide (kv.1 ≠ k)

def lookF (fs : List (Nat × U)) (f : Nat) : Option U := (fs.find? fun kv => kv.1 == f).map (·.2)
def putF (f : Nat) (v : U) : List (Nat × U) → List (Nat × U)
  | [] => [(f, v)]
  | kv :: r => if kv.1 = f then (f, v) :: r else kv :: putF f v r

def flatU : U → Bool
  | .non => true | .bl _ => true | .int _ => true | .str _ => true
  | _ => false
def b2i (b : Bool) : Int := if b then 1 else 0

/-- within a container: the same object is equal -/
def sameOr (f : U → U → Option Bool) : U → U → Option Bool
  | .ref a, .ref b => if a = b then some true else f (.ref a) (.ref b)
  | u, v => f u v
/-- all pairs, as far as both go -/
def allEq (f : U → U → Option Bool) : List U → List U → Option Bool
  | x :: xs, y :: ys => match f x y, allEq f xs ys with
    | some a, some b => some (a && b)
    | _, _ => none
  | _, _ => some true
def eqTop : Nat → AH → U → U → Option Bool
  | 0, _, _, _ => none
  | n + 1, h, u, v => match u, v with
    | .non, .non => some true
    | .bl a, .bl b => some (a == b)
    | .bl a, .int b => some (b2i a == b)
    | .int a, .bl b => some (a == b2i b)
    | .int a, .int b => some (a == b)
    | .str a, .str b => some (a == b)
    | .non, .bl _ => some false | .non, .int _ => some false | .non, .str _ => some false
    | .bl _, .non => some false | .int _, .non => some false | .str _, .non => some false
    | .bl _, .str _ => some false | .int _, .str _ => some false
    | .str _, .bl _ => some false | .str _, .int _ => some false
    | .tup xs, .tup ys => (allEq (sameOr (eqTop n h)) xs ys).map fun b => b && xs.length == ys.length
    | .tup _, .non => some false | .tup _, .bl _ => some false | .tup _, .int _ => some false | .tup _, .str _ => some false
    | .non, .tup _ => some false | .bl _, .tup _ => some false | .int _, .tup _ => some false | .str _, .tup _ => some false
    | .ref a, .ref b => match lstAt h a, lstAt h b with
      | some xs, some ys => if xs.length = ys.length then allEq (sameOr (eqTop n h)) xs ys else some false
      | _, _ => none
    | .ref a, .tup _ => (lstAt h a).map fun _ => false
    | .tup _, .ref a => (lstAt h a).map fun _ => false
    | .ref a, .non => (lstAt h a).map fun _ => false
    | .non, .ref a => (lstAt h a).map fun _ => false
    | _, _ => none
/-- how deep an == may go -/
abbrev eqFuel : Nat := 12
def eqU (h : AH) (u v : U) : Option Bool := eqTop eqFuel h u v
def eqFlat : U → U → Bool
  | .non, .non => true
  | .bl a, .bl b => a == b
  | .bl a, .int b => b2i a == b
  | .int a, .bl b => a == b2i b
  | .int a, .int b => a == b
  | .str a, .str b => a == b
  | _, _ => false

def tru (h : AH) : U → Option Bool
  | .non => some false
  | .bl b => some b
  | .int i => some (i != 0)
  | .str s => if s.length ≤ lim then some (s.length != 0) else none
  | .tup xs => some (!xs.isEmpty)
  | .ref n => match lstAt h n with
    | some xs => some (!xs.isEmpty)
    | none => match dicW h n with
      | some kvs => some (!kvs.isEmpty)
      | none => none
  | _ => none

def ofO {α : Type} (o : Option α) (h : AH) : R α :=
  match o with
  | some a => .ok a h
  | none => .bad
def newL (h : AH) (xs : List U) : R U := .ok (.ref h.length) (h ++ [.lst xs])
def evBin (op : BOp) (u v : U) (h : AH) : R U :=
  match op, u, v with
  | .add, .int i, .int j => .ok (.int (i + j)) h
  | .sub, .int i, .int j => .ok (.int (i - j)) h
  | .mul, .int i, .int j => if (-(2 ^ 64) < i ∧ i < 2 ^ 64) ∨ (-(2 ^ 64) < j ∧ j < 2 ^ 64) then .ok (.int (i * j)) h else .bad
  | .fdiv, .int i, .int j => if 0 < j ∧ j < 1073741824 then .ok (.int (i / j)) h else .bad
  | .mod, .int i, .int j => if 0 < j then .ok (.int (i % j)) h else .bad
  | .pow, .int i, .int j => if 0 ≤ j ∧ j ≤ 1000000 ∧ i.natAbs < 2 ^ 64 then .ok (.int (i ^ j.toNat)) h else .bad
  | .add, .str a, .str b => if a.length + b.length ≤ lim then .ok (.str (a ++ b)) h else .bad
  | .add, .tup a, .tup b => if a ≠ [] ∧ a.length + b.length ≤ lim then .ok (.tup (a ++ b)) h else .bad
  | .add, .ref a, .ref b => match lstW h a, lstW h b with
    | some xs, some ys => if xs.length + ys.length ≤ lim then .ok (.ref h.length) (h ++ [.lst (xs ++ ys)]) else .bad
    | _, _ => .bad
  | .step, .tup xs, .int k => if k = -1 then .ok (.tup xs.reverse) h else .bad
  | .step, .ref n, .int k => match lstAt h n with
    | some xs => if k = 1 then newL h xs else if k = -1 then newL h xs.reverse else .bad
    | none => .bad
  | _, _, _ => .bad
def isNon : U → Bool
  | .non => true
  | _ => false
def dataU (h : AH) : U → Bool
  | .non => true | .bl _ => true | .int _ => true | .str _ => true | .tup _ => true
  | .ref n => (lstAt h n).isSome
  | _ => false
/-- is u among the items? -/
def anyEq (h : AH) (u : U) (xs : List U) : Option Bool :=
  if flatU u && xs.all flatU then some (xs.any fun x => eqFlat x u)
  else if isNon u && xs.all (dataU h) then some (xs.any isNon) else none
def inU (h : AH) (u v : U) : Option Bool :=
  match v with
  | .str z => match u with
    | .str [c] => some (decide (c ∈ z))
    | _ => none
  | .tup xs => anyEq h u xs
  | .ref n => match lstAt h n with
    | some xs => anyEq h u xs
    | none => match dicAt h n, keyOf u with
      | some kvs, some k => some (valD kvs k).isSome
      | _, _ => none
  | _ => none
def evCmp (op : COp) (u v : U) (h : AH) : Option Bool :=
  match op with
  | .eq => eqU h u v
  | .ne => (eqU h u v).map (!·)
  | .lt => match u, v with | .int i, .int j => some (decide (i < j)) | _, _ => none
  | .le => match u, v with | .int i, .int j => some (decide (i ≤ j)) | _, _ => none
  | .gt => match u, v with | .int i, .int j => some (decide (j < i)) | _, _ => none
  | .ge => match u, v with | .int i, .int j => some (decide (j ≤ i)) | _, _ => none
  | .inn => inU h u v
  | .nin => (inU h u v).map (!·)
  | .is => match v with | .non => some (isNon u) | _ => none
  | .isnot => match v with | .non => some (!isNon u) | _ => none
def evIx (u v : U) (h : AH) : Option U :=
  match u, v with
  | .tup xs, .int i => (ixN xs.length i).bind fun j => xs[j]?
  | .str z, .int i => if z.length ≤ lim then ((ixN z.length i).bind fun j => z[j]?).map fun c => .str [c] else none
  | .ref n, v => match lstAt h n with
    | some xs => match v with
      | .int i => (ixN xs.length i).bind fun j => xs[j]?
      | _ => none
    | none => match dicAt h n, keyOf v with
      | some kvs, some k => valD kvs k
      | _, _ => none
  | _, _ => none
def evSl (u : U) (lo hi : Option Int) (h : AH) : R U :=
  match u with
  | .tup xs => .ok (.tup (cut xs lo hi)) h
  | .str z => if z.length ≤ lim then .ok (.str (cut z lo hi)) h else .bad
  | .ref n => match lstAt h n with
    | some xs => .ok (.ref h.length) (h ++ [.lst (cut xs lo hi)])
    | none => .bad
  | _ => .bad
inductive Kd where | none | bool | int | str | tuple | list | dict | ins (c : Nat)
def kdOf (h : AH) : U → Option Kd
  | .non => some .none | .bl _ => some .bool | .int _ => some .int | .str _ => some .str | .tup _ => some .tuple
  | .ref n => match h[n]? with
    | some (.lst _) => some .list
    | some (.frz (.lst _)) => some .list
    | some (.dic _) => some .dict
    | some (.frz (.dic _)) => some .dict
    | some (.ins c _) => some (.ins c)
    | _ => none
  | _ => none
def kdTy (sub : Nat → Nat → Option Bool) : Kd → Ty → Option Bool
  | .int, .int => some true | .bool, .int => some true | .bool, .bool => some true | .str, .str => some true
  | .tuple, .tuple => some true | .list, .list => some true | .dict, .dict => some true
  | .ins c, .cls d => sub c d
  | .ins _, _ => none
  | _, .cls _ => none
  | _, _ => some false
def isTy (sub : Nat → Nat → Option Bool) (h : AH) (u : U) (t : Ty) : Option Bool := (kdOf h u).bind fun k => kdTy sub k t
def isAny (sub : Nat → Nat → Option Bool) (h : AH) (u : U) : List Ty → Option Bool
  | [] => some false
  | t :: ts => match isTy sub h u t, isAny sub h u ts with
    | some a, some b => some (a || b)
    | _, _ => none

def intsU : List U → Option (List Int)
  | [] => some []
  | .int i :: r => (intsU r).map (i :: ·)
  | _ => none
def bools : List U → Option (List Bool)
  | [] => some []
  | .bl i :: r => (bools r).map (i :: ·)
  | _ => none
def strsU : List U → Option (List (List Nat))
  | [] => some []
  | .str i :: r => (strsU r).map (i :: ·)
  | _ => none
def sInt (i : Int) : List Nat := (toString i).toList.map Char.toNat
def digVal (c : Nat) : Option Nat := if 48 ≤ c ∧ c ≤ 57 then some (c - 48) else none
def pNat : List Nat → Nat → Option Nat
  | [], acc => some acc
  | c :: r, acc => match digVal c with
    | some d => pNat r (10 * acc + d)
    | none => none
def pInt (s : List Nat) : Option Int := if s = [] ∨ 600 < s.length then none else (pNat s 0).map Int.ofNat
/-- the first met of each -/
def firsts {α : Type} [DecidableEq α] : List α → List α
  | [] => []
  | x :: r => x :: (firsts r).filter fun y => !decide (y = x)
def insSort {α : Type} (le : α → α → Bool) (x : α) : List α → List α
  | [] => [x]
  | y :: r => if le x y then x :: y :: r else y :: insSort le x r
/-- sorted, equal ones in their order -/
def sortBy {α : Type} (le : α → α → Bool) : List α → List α
  | [] => []
  | x :: r => insSort le x (sortBy le r)
def maxI (x : Int) : List Int → Int
  | [] => x
  | y :: r => maxI (if y > x then y else x) r
def minI (x : Int) : List Int → Int
  | [] => x
  | y :: r => minI (if y < x then y else x) r
def joinS (sep : List Nat) : List (List Nat) → List Nat
  | [] => []
  | [x] => x
  | x :: y :: r => x ++ sep ++ joinS sep (y :: r)

/-- a text cut at each sign c -/
def splitS (c : Nat) : List Nat → List Nat → List (List Nat)
  | acc, [] => [acc]
  | acc, x :: r => if x = c then acc :: splitS c [] r else splitS c (acc ++ [x]) r

/-- the items' keys: the things at place j -/
def keysAt (j : Nat) : List U → Option (List Int)
  | [] => some []
  | .tup xs :: r => match xs[j]?, keysAt j r with
    | some (.int k), some ks => some (k :: ks)
    | _, _ => none
  | _ => none
def keysU (kvs : List (DK × U)) : List U := kvs.map fun kv => keyU kv.1
def lstOf (h : AH) : U → Option (List U)
  | .ref n => lstAt h n
  | _ => none
def evBI (b : BI) (us : List U) (h : AH) : R U :=
  match b with
  | .len => match us with
    | [.str s] => if s.length ≤ lim then .ok (.int s.length) h else .bad
    | [.tup xs] => .ok (.int xs.length) h
    | [.ref n] => match lstAt h n with
      | some xs => .ok (.int xs.length) h
      | none => match dicW h n with
        | some kvs => .ok (.int kvs.length) h
        | none => .bad
    | _ => .bad
  | .max => match us with
    | [.int i, .int j] => .ok (.int (if j > i then j else i)) h
    | _ => .bad
  | .min => match us with
    | [.int i, .int j] => .ok (.int (if j < i then j else i)) h
    | _ => .bad
  | .maxl => match us with
    | [u] => match (lstOf h u).bind intsU with
      | some (x :: r) => .ok (.int (maxI x r)) h
      | _ => .bad
    | _ => .bad
  | .minl => match us with
    | [u] => match (lstOf h u).bind intsU with
      | some (x :: r) => .ok (.int (minI x r)) h
      | _ => .bad
    | _ => .bad
  | .maxd => match us with
    | [u, .int d] => match (lstOf h u).bind intsU with
      | some (x :: r) => .ok (.int (maxI x r)) h
      | some [] => .ok (.int d) h
      | _ => .bad
    | _ => .bad
  | .sum => match us with
    | [u] => match (lstOf h u).bind intsU with
      | some xs => .ok (.int xs.sum) h
      | none => .bad
    | _ => .bad
  | .all => match us with
    | [u] => match (lstOf h u).bind bools with
      | some bs => .ok (.bl (bs.all id)) h
      | none => .bad
    | _ => .bad
  | .any => match us with
    | [u] => match (lstOf h u).bind bools with
      | some bs => .ok (.bl (bs.any id)) h
      | none => .bad
    | _ => .bad
  | .str => match us with
    | [.int i] => if i.natAbs.log2 < 1920 then .ok (.str (sInt i)) h else .bad
    | [.str s] => .ok (.str s) h
    | _ => .bad
  | .int => match us with
    | [.int i] => .ok (.int i) h
    | [.bl k] => .ok (.int (b2i k)) h
    | [.str s] => match pInt s with
      | some n => .ok (.int n) h
      | none => .bad
    | _ => .bad
  | .abs => match us with
    | [.int i] => .ok (.int (if i < 0 then -i else i)) h
    | _ => .bad
  | .list => match us with
    | [.tup xs] => newL h xs
    | [.ref n] => match lstAt h n with
      | some xs => newL h xs
      | none => match dicAt h n with
        | some kvs => newL h (keysU kvs)
        | none => .bad
    | _ => .bad
  | .tuple => match us with
    | [.tup xs] => .ok (.tup xs) h
    | [.ref n] => match lstAt h n with
      | some xs => .ok (.tup xs) h
      | none => .bad
    | _ => .bad
  | .divmod => match us with
    | [.int i, .int j] => if 0 < j ∧ j < 1073741824 then .ok (.tup [.int (i / j), .int (i % j)]) h else .bad
    | _ => .bad
  | .sorted => match us with
    | [u] => match (lstOf h u).bind intsU with
      | some xs => newL h ((sortBy (fun a b => decide (a ≤ b)) xs).map U.int)
      | none => .bad
    | _ => .bad
  | .sortedk j => match us with
    | [u] => match lstOf h u with
      | some xs => match keysAt j xs with
        | some ks => newL h ((sortBy (fun a b => decide (a.1 ≤ b.1)) (ks.zip xs)).map (·.2))
        | none => .bad
      | none => .bad
    | _ => .bad
  | .lenset => match us with
    | [u] => match (lstOf h u).bind strsU with
      | some xs => if xs.length ≤ 4000 then .ok (.int (firsts xs).length) h else .bad
      | none => .bad
    | _ => .bad
  | .sortedset => match us with
    | [u] => match (lstOf h u).bind intsU with
      | some xs => if xs.length ≤ 60 then newL h ((sortBy (fun a b => decide (a ≤ b)) (firsts xs)).map U.int) else .bad
      | none => .bad
    | _ => .bad
  | .tupvals => match us with
    | [.ref n] => match dicAt h n with
      | some kvs => .ok (.tup (kvs.map (·.2))) h
      | none => .bad
    | _ => .bad
  | .listvals => match us with
    | [.ref n] => match dicAt h n with
      | some kvs => newL h (kvs.map (·.2))
      | none => .bad
    | _ => .bad
  | .listitems => match us with
    | [.ref n] => match dicAt h n with
      | some kvs => newL h (kvs.map fun kv => .tup [keyU kv.1, kv.2])
      | none => .bad
    | _ => .bad
  | _ => .bad
/-- where it stands first, among flat things; where None does -/
def firstAt (h : AH) (xs : List U) (y : U) : Option U :=
  if flatU y && xs.all flatU then (xs.findIdx? fun x => eqFlat x y).map fun j => U.int (j : Nat)
  else if isNon y && xs.all (dataU h) then (xs.findIdx? isNon).map fun j => U.int (j : Nat) else none
def evBM (b : BM) (o : U) (us : List U) (h : AH) : R U :=
  match b with
  | .append => match o, us with
    | .ref n, [v] => match lstW h n with
      | some xs => if xs.length < lim then .ok .non (h.set n (.lst (xs ++ [v]))) else .bad
      | none => .bad
    | _, _ => .bad
  | .extend => match o, us with
    | .ref n, [.ref m] => match lstW h n, lstW h m with
      | some xs, some ys => if xs.length + ys.length ≤ lim then .ok .non (h.set n (.lst (xs ++ ys))) else .bad
      | _, _ => .bad
    | _, _ => .bad
  | .join => match o, us with
    | .str z, [u] => match (lstOf h u).bind strsU with
      | some xs => if (xs.map List.length).sum + xs.length * z.length ≤ lim then .ok (.str (joinS z xs)) h else .bad
      | none => .bad
    | _, _ => .bad
  | .get => match o, us with
    | .ref n, [k, d] => match dicAt h n, keyOf k with
      | some kvs, some k => .ok ((valD kvs k).getD d) h
      | _, _ => .bad
    | _, _ => .bad
  | .index => match o, us with
    | .ref n, [y] => match lstAt h n with
      | some xs => ofO (firstAt h xs y) h
      | none => .bad
    | _, _ => .bad
  | .split => match o, us with
    | .str z, [.str y] => match y with
      | [c] => if z.length + 2 ≤ lim ∧ c < 256 then newL h ((splitS c [] z).map U.str) else .bad
      | _ => .bad
    | _, _ => .bad
  | _ => .bad
/-- the receiver is of the kind that has the method -/
def rcvB (b : BM) (u : U) (h : AH) : Bool :=
  match b with
  | .join => match u with | .str _ => true | _ => false
  | .split => match u with | .str _ => true | _ => false
  | .get => match u with | .ref n => (dicAt h n).isSome | _ => false
  | _ => match u with | .ref n => (lstAt h n).isSome | _ => false
mutual
def evP : P → U → Env → Option Env
  | .name i, u, e => some (e.set i (some u))
  | .tup ps, u, e => match u with
    | .tup us => evPs ps us e
    | _ => none
  | .nil, _, _ => none
  | .cons _ _, _, _ => none
termination_by structural x => x
def evPs : P → List U → Env → Option Env
  | .nil, us, e => match us with
    | [] => some e
    | _ => none
  | .cons a b, us, e => match us with
    | u :: r => match evP a u e with
      | some e' => evPs b r e'
      | none => none
    | [] => none
  | .name _, _, _ => none
  | .tup _, _, _ => none
termination_by structural x => x
end

mutual
def U.same : U → U → Bool
  | .non, .non => true
  | .bl a, .bl b => a == b
  | .int a, .int b => a == b
  | .str a, .str b => a == b
  | .tup xs, .tup ys => U.sames xs ys
  | .ref a, .ref b => a == b
  | .exc a xs, .exc b ys => a == b && U.sames xs ys
  | .fn a, .fn b => a == b
  | _, _ => false
termination_by structural x => x
def U.sames : List U → List U → Bool
  | [], [] => true
  | x :: xs, y :: ys => U.same x y && U.sames xs ys
  | _, _ => false
termination_by structural x => x
end
mutual
theorem U.same_iff : ∀ u v : U, U.same u v = true ↔ u = v
  | .non, v => by cases v <;> simp [U.same]
  | .bl a, v => by cases v <;> simp [U.same]
  | .int a, v => by cases v <;> simp [U.same]
  | .str a, v => by cases v <;> simp [U.same]
  | .tup xs, v => by cases v <;> simp [U.same, U.sames_iff xs]
  | .ref a, v => by cases v <;> simp [U.same]
  | .exc a xs, v => by cases v <;> simp [U.same, U.sames_iff xs]
  | .fn a, v => by cases v <;> simp [U.same]
theorem U.sames_iff : ∀ xs ys : List U, U.sames xs ys = true ↔ xs = ys
  | [], ys => by cases ys <;> simp [U.sames]
  | x :: xs, ys => by cases ys <;> simp [U.sames, U.same_iff x, U.sames_iff xs]
end

/-- what a walk gives: its items, the lists that must stand meanwhile, the dict that is locked -/
structure Its where
  items : List U
  gd : List (Nat × List U)
  lk : Option Nat
def itSeq (u : U) (h : AH) : R Its :=
  match u with
  | .tup xs => .ok ⟨xs, [], none⟩ h
  | .str s => .ok ⟨s.map fun c => .str [c], [], none⟩ h
  | .ref n => match lstAt h n with
    | some xs => .ok ⟨xs, [(n, xs)], none⟩ h
    | none => .bad
  | _ => .bad
def itR1 (u : U) (h : AH) : R Its :=
  match u with
  | .int j => if -(2 ^ 62) ≤ j ∧ j < 2 ^ 62 then .ok ⟨(List.range j.toNat).map fun k => .int (k : Nat), [], none⟩ h else .bad
  | _ => .bad
def itR2 (u v : U) (h : AH) : R Its :=
  match u, v with
  | .int i, .int j => if -(2 ^ 62) ≤ i ∧ i < 2 ^ 62 ∧ -(2 ^ 62) ≤ j ∧ j < 2 ^ 62 then .ok ⟨(List.range (j - i).toNat).map fun k => .int (i + (k : Nat)), [], none⟩ h else .bad
  | _, _ => .bad
/-- each with its number -/
def numbered : Nat → List U → List U
  | _, [] => []
  | i, x :: r => .tup [.int (i : Nat), x] :: numbered (i + 1) r
def itEn (u : U) (h : AH) : R Its :=
  match u with
  | .ref n => match lstAt h n with
    | some xs => .ok ⟨numbered 0 xs, [(n, xs)], none⟩ h
    | none => .bad
  | .tup xs => .ok ⟨numbered 0 xs, [], none⟩ h
  | _ => .bad
def itZip (u v : U) (h : AH) : R Its :=
  match u, v with
  | .tup xs, .tup ys => .ok ⟨List.zipWith (fun x y => .tup [x, y]) xs ys, [], none⟩ h
  | .ref m, .ref n => match lstAt h m, lstAt h n with
    | some xs, some ys => .ok ⟨List.zipWith (fun x y => .tup [x, y]) xs ys, [(m, xs), (n, ys)], none⟩ h
    | _, _ => .bad
  | _, _ => .bad
def itItems (u : U) (h : AH) : R Its :=
  match u with
  | .ref n => match dicW h n with
    | some kvs => .ok ⟨kvs.map fun kv => .tup [keyU kv.1, kv.2], [], some n⟩ h
    | none => .bad
  | _ => .bad
def itVals (u : U) (h : AH) : R Its :=
  match u with
  | .ref n => match dicW h n with
    | some kvs => .ok ⟨kvs.map (·.2), [], some n⟩ h
    | none => .bad
  | _ => .bad
def itKeys (u : U) (h : AH) : R Its :=
  match u with
  | .ref n => match dicW h n with
    | some kvs => .ok ⟨keysU kvs, [], some n⟩ h
    | none => .bad
  | _ => .bad
def gdB (h : AH) : List (Nat × List U) → Bool
  | [] => true
  | p :: r => (match lstAt h p.1 with
    | some xs => U.sames xs p.2
    | none => false) && gdB h r
def wipe (e : Env) : List Nat → Env
  | [] => e
  | v :: vs => (wipe e vs).set v none

/-- a for's turns -/
def forL (g : AH → Bool) (body : U → Env → AH → F) : List U → Env → AH → F
  | [], e, h => if g h then .nx e h else .bad
  | u :: us, e, h => if g h then
      match body u e h with
      | .nx e' h' => forL g body us e' h'
      | .ct e' h' => forL g body us e' h'
      | .bk e' h' => .nx e' h'
      | r => r
    else .bad
/-- a comprehension's turns: what is made goes to the list at D -/
def lcL (g : List (Nat × List U)) (D : Nat) (f : U → AH → R (Option U)) : List U → AH → R Unit
  | [], h => if gdB h g then .ok () h else .bad
  | u :: us, h => if gdB h g then
      match f u h with
      | .ok none h' => lcL g D f us h'
      | .ok (some v) h' => match lstW h' D with
        | some acc => if acc.length < lim then lcL g D f us (h'.set D (.lst (acc ++ [v]))) else .bad
        | none => .bad
      | _ => .bad
    else .bad
def whL (t : Env → AH → R Bool) (body : Env → AH → F) : Nat → Env → AH → F
  | 0, _, _ => .bad
  | n + 1, e, h => match t e h with
    | .ok true h1 => match body e h1 with
      | .nx e' h' => whL t body n e' h'
      | .ct e' h' => whL t body n e' h'
      | .bk e' h' => .nx e' h'
      | r => r
    | .ok false h1 => .nx e h1
    | .exc c xs h1 => .exc c xs e h1
    | .bad => .bad
def truR (r : R U) : R Bool :=
  match r with
  | .ok u h => ofO (tru h u) h
  | .exc c xs h => .exc c xs h
  | .bad => .bad
def fnd (f : Nat) : List Nat → List U → Option U
  | a :: r, x :: xs => if a = f then some x else fnd f r xs
  | _, _ => none
def evFld (Γ : Tab) (u : U) (f : Nat) (h : AH) : Option U :=
  match u with
  | .ref n => match insAt h n with
    | some (c, fs) => if Γ.fl c f then lookF fs f else none
    | none => none
  | .exc c xs => fnd f (Γ.xf c) xs
  | _ => none

section
variable (Γ : Tab) (Φ : Nat → List U → AH → R U)
mutual
def evE : E → Env → AH → R U
  | .var i, e, h => match e[i]? with
    | some (some u) => .ok u h
    | _ => .bad
  | .con u, _, h => .ok u h
  | .glb g, _, h => ofO Γ.glb[g]? h
  | .fnv k, _, h => .ok (.fn k) h
  | .bin op a b, e, h => (evE a e h).bind fun u h1 => (evE b e h1).bind fun v h2 => evBin op u v h2
  | .neg a, e, h => (evE a e h).bind fun u h1 => match u with
    | .int i => .ok (.int (-i)) h1
    | _ => .bad
  | .cmp op a b, e, h => (evE a e h).bind fun u h1 => (evE b e h1).bind fun v h2 => (ofO (evCmp op u v h2) h2).bind fun k h3 => .ok (.bl k) h3
  | .chain o1 o2 a b c, e, h => (evE a e h).bind fun u h1 => (evE b e h1).bind fun v h2 => (ofO (evCmp o1 u v h2) h2).bind fun k h3 =>
      match k with
      | true => (evE c e h3).bind fun w h4 => (ofO (evCmp o2 v w h4) h4).bind fun k h5 => .ok (.bl k) h5
      | false => .ok (.bl false) h3
  | .not a, e, h => (truR (evE a e h)).bind fun k h1 => .ok (.bl (!k)) h1
  | .and es, e, h => evAnd es e h
  | .or es, e, h => evOr es e h
  | .ife t a b, e, h => (truR (evE t e h)).bind fun k h1 => match k with
    | true => evE a e h1
    | false => evE b e h1
  | .tup es, e, h => (evEs es e h).bind fun us h1 => .ok (.tup us) h1
  | .lst es, e, h => (evEs es e h).bind fun us h1 => newL h1 us
  | .dic ks vs, e, h => (evEs ks e (h ++ [.dic []])).bind fun us h1 => (evEs vs e h1).bind fun ws h2 => match us, ws with
    | [], [] => .ok (.ref h.length) h2
    | [ku], [vu] => match keyOf ku, dicW h2 h.length with
      | some k, some [] => .ok (.ref h.length) (h2.set h.length (.dic [(k, vu)]))
      | _, _ => .bad
    | _, _ => .bad
  | .ix a i, e, h => (evE a e h).bind fun u h1 => (evE i e h1).bind fun v h2 => ofO (evIx u v h2) h2
  | .sl a lo hi, e, h => (evE a e h).bind fun u h1 => (evOpt lo e h1).bind fun l h2 => (evOpt hi e h2).bind fun m h3 => evSl u l m h3
  | .call f es, e, h => (evEs es e h).bind fun us h1 => Φ f us h1
  | .mk c es, e, h => (evEs es e h).bind fun us h1 => match Γ.ini c with
    | some f => (Φ f (.ref h1.length :: us) (h1 ++ [.ins c []])).bind fun r h2 => match r with
      | .non => .ok (.ref h1.length) h2
      | _ => .bad
    | none => match us with
      | [] => .ok (.ref h1.length) (h1 ++ [.ins c []])
      | _ => .bad
  | .meth o m es, e, h => (evE o e h).bind fun u h1 => match u with
    | .ref n => match insAt h1 n with
      | some (c, fs) => match Γ.mt c m, lookF fs m with
        | some f, none => (evEs es e h1).bind fun us h2 => Φ f (.ref n :: us) h2
        | _, _ => .bad
      | none => .bad
    | _ => .bad
  | .fld o f, e, h => (evE o e h).bind fun u h1 => ofO (evFld Γ u f h1) h1
  | .bi b es, e, h => (evEs es e h).bind fun us h1 => evBI b us h1
  | .bm b o es, e, h => (evE o e h).bind fun u h1 => match rcvB b u h1 with
    | true => (evEs es e h1).bind fun us h2 => evBM b u us h2
    | false => .bad
  | .isi a ts, e, h => (evE a e h).bind fun u h1 => ofO (isAny Γ.isb h1 u ts) h1 |>.bind fun k h2 => .ok (.bl k) h2
  | .lc a p it c own, e, h => (evIt it e h).bind fun its h1 => match its.lk with
    | none => match lcL its.gd h1.length (fun u h2 => match evP p u (wipe e own) with
        | some e' => (evC c e' h2).bind fun k h3 => match k with
          | true => (evE a e' h3).bind fun v h4 => .ok (some v) h4
          | false => .ok none h3
        | none => .bad) its.items (h1 ++ [.lst []]) with
      | .ok _ h2 => .ok (.ref h1.length) h2
      | _ => .bad
    | some _ => .bad
  | .nil, _, _ => .bad
  | .cons _ _, _, _ => .bad
  | .iseq _, _, _ => .bad | .irange1 _, _, _ => .bad | .irange2 _ _, _, _ => .bad | .ienum _, _, _ => .bad | .izip _ _, _, _ => .bad
  | .iitems _, _, _ => .bad | .ivalues _, _, _ => .bad | .ikeys _, _, _ => .bad
termination_by structural x => x
def evEs : E → Env → AH → R (List U)
  | .nil, _, h => .ok [] h
  | .cons a b, e, h => (evE a e h).bind fun u h1 => (evEs b e h1).bind fun us h2 => .ok (u :: us) h2
  | _, _, _ => .bad
termination_by structural x => x
def evAnd : E → Env → AH → R U
  | .cons a .nil, e, h => evE a e h
  | .cons a (.cons b c), e, h => (evE a e h).bind fun u h1 => (ofO (tru h1 u) h1).bind fun k h2 => match k with
    | true => evAnd (.cons b c) e h2
    | false => .ok u h2
  | _, _, _ => .bad
termination_by structural x => x
def evOr : E → Env → AH → R U
  | .cons a .nil, e, h => evE a e h
  | .cons a (.cons b c), e, h => (evE a e h).bind fun u h1 => (ofO (tru h1 u) h1).bind fun k h2 => match k with
    | true => .ok u h2
    | false => evOr (.cons b c) e h2
  | _, _, _ => .bad
termination_by structural x => x
/-- a comprehension's test, where there is one -/
def evC : E → Env → AH → R Bool
  | .nil, _, h => .ok true h
  | .cons t .nil, e, h => truR (evE t e h)
  | _, _, _ => .bad
termination_by structural x => x
def evOpt : E → Env → AH → R (Option Int)
  | .nil, _, h => .ok none h
  | .cons a .nil, e, h => (evE a e h).bind fun u h1 => match u with
    | .int i => .ok (some i) h1
    | _ => .bad
  | _, _, _ => .bad
termination_by structural x => x
def evIt : E → Env → AH → R Its
  | .iseq a, e, h => (evE a e h).bind itSeq
  | .irange1 a, e, h => (evE a e h).bind itR1
  | .irange2 a b, e, h => (evE a e h).bind fun u h1 => (evE b e h1).bind fun v h2 => itR2 u v h2
  | .ienum a, e, h => (evE a e h).bind itEn
  | .izip a b, e, h => (evE a e h).bind fun u h1 => (evE b e h1).bind fun v h2 => itZip u v h2
  | .iitems d, e, h => (evE d e h).bind itItems
  | .ivalues d, e, h => (evE d e h).bind itVals
  | .ikeys d, e, h => (evE d e h).bind itKeys
  | _, _, _ => .bad
termination_by structural x => x
end
def F.ofR {α : Type} (r : R α) (e : Env) (f : α → AH → F) : F :=
  match r with
  | .ok a h => f a h
  | .exc c xs h => .exc c xs e h
  | .bad => .bad
def F.seq (r : F) (f : Env → AH → F) : F :=
  match r with
  | .nx e h => f e h
  | r => r
/-- the lock is taken off at every end -/
def F.unlock (n : Nat) (o : AO) (r : F) : F :=
  match r with
  | .nx e h => .nx e (h.set n o)
  | .rt u h => .rt u (h.set n o)
  | _ => .bad
mutual
/-- no exception within -/
def U.plain : U → Bool
  | .exc _ _ => false
  | .fn _ => false
  | .tup xs => U.plains xs
  | _ => true
termination_by structural x => x
def U.plains : List U → Bool
  | [] => true
  | x :: xs => U.plain x && U.plains xs
termination_by structural x => x
end
mutual
/-- what a suite may store: i the slot of the exception's name -/
def pureX (i : Option Nat) : E → Bool
  | .con u => U.plain u
  | .var j => i != some j
  | .fld o _ => match o with
    | .var j => i == some j
    | _ => false
  | .tup es => pureXs i es
  | _ => false
termination_by structural x => x
def pureXs (i : Option Nat) : E → Bool
  | .nil => true
  | .cons a b => pureX i a && pureXs i b
  | _ => false
termination_by structural x => x
end
abbrev whFuel : Nat := 10000
mutual
def evS : S → Env → AH → F
  | .nil, e, h => .nx e h
  | .cons a b, e, h => (evS a e h).seq fun e1 h1 => evS b e1 h1
  | .asg p x, e, h => F.ofR (evE Γ Φ x e h) e fun u h1 => match evP p u e with
    | some e1 => .nx e1 h1
    | none => .bad
  | .asub o i x, e, h => F.ofR (evE Γ Φ x e h) e fun v h1 => F.ofR (evE Γ Φ o e h1) e fun u h2 => F.ofR (evE Γ Φ i e h2) e fun k h3 => match u with
    | .ref n => match lstW h3 n with
      | some xs => match k with
        | .int j => match ixN xs.length j with
          | some m => .nx e (h3.set n (.lst (xs.set m v)))
          | none => .bad
        | _ => .bad
      | none => match dicW h3 n, keyOf k with
        | some kvs, some kk => if kvs.length < lim then .nx e (h3.set n (.dic (putD kvs kk v))) else .bad
        | _, _ => .bad
    | _ => .bad
  | .afld o f x, e, h => F.ofR (evE Γ Φ x e h) e fun v h1 => F.ofR (evE Γ Φ o e h1) e fun u h2 => match u with
    | .ref n => match insAt h2 n with
      | some (c, fs) => if Γ.fl c f ∧ fs.length < 900 then .nx e (h2.set n (.ins c (putF f v fs))) else .bad
      | none => .bad
    | _ => .bad
  | .aug i op x, e, h => match e[i]? with
    | some (some (.int a)) => F.ofR (evE Γ Φ x e h) e fun v h1 => match op, v with
      | .add, .int b => .nx (e.set i (some (.int (a + b)))) h1
      | .sub, .int b => .nx (e.set i (some (.int (a - b)))) h1
      | _, _ => .bad
    | _ => .bad
  | .augsub o i op x, e, h => F.ofR (evE Γ Φ o e h) e fun u h1 => F.ofR (evE Γ Φ i e h1) e fun k h2 => match u, keyOf k with
    | .ref n, some kk => match (dicAt h2 n).bind fun kvs => valD kvs kk with
      | some (.int a) => F.ofR (evE Γ Φ x e h2) e fun v h3 => match op, v, dicW h3 n with
        | .add, .int b, some kvs => if kvs.length < lim then .nx e (h3.set n (.dic (putD kvs kk (.int (a + b))))) else .bad
        | .sub, .int b, some kvs => if kvs.length < lim then .nx e (h3.set n (.dic (putD kvs kk (.int (a - b))))) else .bad
        | _, _, _ => .bad
      | _ => .bad
    | _, _ => .bad
  | .augfld o f op x, e, h => F.ofR (evE Γ Φ o e h) e fun u h1 => match u with
    | .ref n => match (insAt h1 n).bind fun p => if Γ.fl p.1 f then lookF p.2 f else none with
      | some (.int a) => F.ofR (evE Γ Φ x e h1) e fun v h2 => match op, v, insAt h2 n with
        | .add, .int b, some (c, fs) => if fs.length < 900 then .nx e (h2.set n (.ins c (putF f (.int (a + b)) fs))) else .bad
        | .sub, .int b, some (c, fs) => if fs.length < 900 then .nx e (h2.set n (.ins c (putF f (.int (a - b)) fs))) else .bad
        | _, _, _ => .bad
      | _ => .bad
    | _ => .bad
  | .ex x, e, h => F.ofR (evE Γ Φ x e h) e fun _ h1 => .nx e h1
  | .ret x, e, h => F.ofR (evE Γ Φ x e h) e fun u h1 => .rt u h1
  | .ret0, e, h => .rt .non h
  | .ifs t a b, e, h => F.ofR (truR (evE Γ Φ t e h)) e fun k h1 => match k with
    | true => evS a e h1
    | false => evS b e h1
  | .for p it b, e, h => F.ofR (evIt Γ Φ it e h) e fun its h1 => match its.lk with
    | none => forL (fun h => gdB h its.gd) (fun u e h => match evP p u e with
        | some e1 => evS b e1 h
        | none => .bad) its.items e h1
    | some n => match dicW h1 n with
      | some kvs => F.unlock n (.dic kvs) (forL (fun _ => true) (fun u e h => match evP p u e with
        | some e1 => evS b e1 h
        | none => .bad) its.items e (h1.set n (.frz (.dic kvs))))
      | none => .bad
  | .whl t b, e, h => whL (fun e h => truR (evE Γ Φ t e h)) (fun e h => evS b e h) whFuel e h
  | .rai c es, e, h => F.ofR (evEs Γ Φ es e h) e fun us h1 => if us.length = (Γ.xf c).length then .exc c us e h1 else .bad
  | .tri b hs, e, h => match evS b e h with
    | .exc c xs e1 h1 => match Γ.xf c with
      | [] => .bad
      | _ :: _ => evH hs c xs e1 h1
    | r => r
  | .brk, e, h => .bk e h
  | .cnt, e, h => .ct e h
  | .pas, e, h => .nx e h
  | .hd _ _ _, _, _ => .bad
termination_by structural x => x
/-- the first handler whose class is meant -/
def evH : S → Nat → List U → Env → AH → F
  | .cons a b, c, xs, e, h => match evHd a c xs e h with
    | some r => r
    | none => evH b c xs e h
  | .nil, c, xs, e, h => .exc c xs e h
  | _, _, _, _, _ => .bad
termination_by structural x => x
def evHd : S → Nat → List U → Env → AH → Option F
  | .hd k slot b, c, xs, e, h => if Γ.sub c k then
      match slot with
      | some i => match evS b (e.set i (some (.exc c xs))) h with
        | .nx e1 h1 => some (.nx (e1.set i none) h1)
        | _ => some .bad
      | none => match evS b e h with
        | .nx e1 h1 => some (.nx e1 h1)
        | _ => some .bad
    else none
  | _, _, _, _, _ => some .bad
termination_by structural x => x
end
end

/-! ### defs -/
structure Fn where
  np : Nat
  nl : Nat
  body : S
def start (n : Nat) (us : List U) : Env := us.map some ++ List.replicate (n - us.length) none
def F.out (r : F) : R U :=
  match r with
  | .nx _ h => .ok .non h
  | .rt u h => .ok u h
  | .exc c xs _ h => .exc c xs h
  | _ => .bad
def callF (Γ : Tab) (T : Nat → Option Fn) : Nat → Nat → List U → AH → R U
  | 0, _, _, _ => .bad
  | n + 1, f, us, h => match T f with
    | some d => if us.length = d.np then (evS Γ (callF Γ T n) d.body (start d.nl us) h).out else .bad
    | none => .bad
end Ev
/-! EvA: how the functional reading's values and heap stand in the model's. -/
namespace EvS
open PySem PySem.Spec PyProof.Rows L2
open Ev (U AO AH DK)

def mkS (s : List Nat) : Str := ⟨s.toArray⟩
theorem mkS_list (s : List Nat) : (mkS s).cps.toList = s := by simp [mkS]
theorem mkS_inj {a b : List Nat} (h : mkS a = mkS b) : a = b := by
  have := congrArg (fun z : Str => z.cps.toList) h
  simpa [mkS] using this
def mkK : DK → Key
  | .inl i => .inl i
  | .inr s => .inr (mkS s)
theorem mkK_inj : ∀ {a b : DK}, mkK a = mkK b → a = b
  | .inl a, .inl b, h => by cases h; rfl
  | .inr a, .inr b, h => by rw [mkS_inj (Sum.inr.inj h)]
  | .inl _, .inr _, h => nomatch h
  | .inr _, .inl _, h => nomatch h

/-- what stands still of the text: the tables, the attributes' names, where defs and classes lie -/
structure Sig where
  Γ : Ev.Tab
  T : Nat → Option Ev.Fn
  an : List Str
  fa : Nat → Addr
  ca : Nat → Addr
  gf : Str → Option Nat
  gc : Str → Option Nat
  gk : Str → Option Nat
  hx : Nat → Bool
  K : PySem.W.Frag
/-- the exception that a suite holds -/
abbrev Xa := Option (Addr × Value × Option Addr)

def TupAt (K : PySem.W.Frag) (H : Hp) (a : Addr) (xs : List V) : Prop :=
  H a = some (.tup xs) ∨
    ∃ (o : Obj) (its : Array Value) (n : Nat), K.lookup a = some o ∧ o.cls = .type "tuple" ∧ o.data = .seq its n ∧ its.size ≤ sizeLine ∧ Vals xs its.toList
theorem TupAt.sq {K : PySem.W.Frag} {H : Hp} {a : Addr} {xs : List V} (h : TupAt K H a xs) : SqT K H a xs := by
  rcases h with h | h
  · exact .inl (.inl h)
  · exact .inr h

section
variable (G : Sig) (xa : Xa) (r : List Addr) (H : Hp)
mutual
/-- a value of the reading and one of the layer -/
def RU : U → V → Prop
  | .non, v => v = .non
  | .bl b, v => v = .bl b
  | .int i, v => v = .int i
  | .str s, v => v = .str (mkS s)
  | .tup xs, v => ∃ (a : Addr) (vs : List V), v = .ref a ∧ TupAt G.K H a vs ∧ RUs xs vs
  | .ref n, v => ∃ a, r[n]? = some a ∧ v = .ref a
  | .exc c xs, v => ∃ (a dd : Addr) (fs : List (Str × V)) (ws : List V), xa = some (a, .ref (G.ca c), some dd) ∧ v = .ref a ∧ H dd = some (.xd fs) ∧ RUs xs ws ∧ xs.length = (G.Γ.xf c).length ∧
      ∀ (i f : Nat) (w : V), (G.Γ.xf c)[i]? = some f → ws[i]? = some w → ∃ n, G.an[f]? = some n ∧ fs.lookup n = some w
  | .fn _, _ => False
def RUs : List U → List V → Prop
  | [], vs => vs = []
  | x :: xs, vs => ∃ (y : V) (ys : List V), vs = y :: ys ∧ RU x y ∧ RUs xs ys
end
/-- an exception in the air -/
def XR (c : Nat) (xs : List U) (cls : Value) (d : Option Addr) : Prop :=
  cls = .ref (G.ca c) ∧ ∃ (dd : Addr) (fs : List (Str × V)) (ws : List V), d = some dd ∧ H dd = some (.xd fs) ∧ RUs G xa r H xs ws ∧ xs.length = (G.Γ.xf c).length ∧
    ∀ (i f : Nat) (w : V), (G.Γ.xf c)[i]? = some f → ws[i]? = some w → ∃ n, G.an[f]? = some n ∧ fs.lookup n = some w
def RKv : List (DK × U) → List (Key × V) → Prop := Paired fun p q => q.1 = mkK p.1 ∧ RU G xa r H p.2 q.2
def RFs : List (Nat × U) → List (Str × V) → Prop := Paired fun p q => G.an[p.1]? = some q.1 ∧ RU G xa r H p.2 q.2
def RO : AO → HO → Prop
  | .lst xs, o => ∃ vs, o = .lst vs ∧ RUs G xa r H xs vs
  | .dic kvs, o => ∃ ks, o = .dK ks ∧ RKv G xa r H kvs ks
  | .ins c fs, o => ∃ dx gs, o = .ins (G.ca c) dx gs ∧ RFs G xa r H fs gs
  | .frz o', o => ∃ ob u, o = .frz ob u ∧ RO o' u
end
/-- the heaps agree: places r -/
structure RS (G : Sig) (xa : Xa) (r : List Addr) (h : AH) (H : Hp) : Prop where
  len : r.length = h.length
  nd : r.Nodup
  ob : ∀ (n : Nat) (o : AO) (a : Addr), h[n]? = some o → r[n]? = some a → ∃ u, H a = some u ∧ RO G xa r H o u
/-- what stays from one moment to a later one -/
structure Ex0 (r : List Addr) (H : Hp) (r' : List Addr) (H' : Hp) : Prop where
  pre : ∀ (n : Nat) (a : Addr), r[n]? = some a → r'[n]? = some a
  tup : ∀ a xs, H a = some (.tup xs) → H' a = some (.tup xs)
  xd : ∀ a fs, H a = some (.xd fs) → H' a = some (.xd fs)
/-- .. and what is locked stays locked -/
structure Ex (r : List Addr) (H : Hp) (r' : List Addr) (H' : Hp) : Prop where
  pre : ∀ (n : Nat) (a : Addr), r[n]? = some a → r'[n]? = some a
  tup : ∀ a xs, H a = some (.tup xs) → H' a = some (.tup xs)
  xd : ∀ a fs, H a = some (.xd fs) → H' a = some (.xd fs)
  frz : ∀ a o u, H a = some (.frz o u) → H' a = some (.frz o u)
theorem Ex.to0 {r : List Addr} {H : Hp} {r' : List Addr} {H' : Hp} (e : Ex r H r' H') : Ex0 r H r' H' := ⟨e.pre, e.tup, e.xd⟩
theorem Ex.refl (r : List Addr) (H : Hp) : Ex r H r H := ⟨fun _ _ h => h, fun _ _ h => h, fun _ _ h => h, fun _ _ _ h => h⟩
theorem Ex.trans {r r' r'' : List Addr} {H H' H'' : Hp} (a : Ex r H r' H') (b : Ex r' H' r'' H'') : Ex r H r'' H'' :=
  ⟨fun n x h => b.pre n x (a.pre n x h), fun x xs h => b.tup x xs (a.tup x xs h), fun x xs h => b.xd x xs (a.xd x xs h), fun x o u h => b.frz x o u (a.frz x o u h)⟩

section
variable {G : Sig} {xa : Xa} {r r' : List Addr} {H H' : Hp}
theorem TupAt.mono0 {a : Addr} {xs : List V} (e : Ex0 r H r' H') (h : TupAt G.K H a xs) : TupAt G.K H' a xs := by
  rcases h with h | h
  · exact .inl (e.tup _ _ h)
  · exact .inr h
mutual
theorem RU.mono0 (e : Ex0 r H r' H') : ∀ {u : U} {v : V}, RU G xa r H u v → RU G xa r' H' u v
  | .non, _, h => h
  | .bl _, _, h => h
  | .int _, _, h => h
  | .str _, _, h => h
  | .tup xs, _, h => by
    unfold RU at h ⊢
    obtain ⟨a, vs, e1, t, hs⟩ := h
    exact ⟨a, vs, e1, t.mono0 e, RUs.mono0 e hs⟩
  | .ref n, _, h => by
    unfold RU at h ⊢
    obtain ⟨a, e1, e2⟩ := h
    exact ⟨a, e.pre _ _ e1, e2⟩
  | .exc c xs, _, h => by
    unfold RU at h ⊢
    obtain ⟨a, dd, fs, ws, e1, e2, e3, e4, e5, e6⟩ := h
    exact ⟨a, dd, fs, ws, e1, e2, e.xd _ _ e3, RUs.mono0 e e4, e5, e6⟩
  | .fn _, _, h => h
theorem RUs.mono0 (e : Ex0 r H r' H') : ∀ {us : List U} {vs : List V}, RUs G xa r H us vs → RUs G xa r' H' us vs
  | [], _, h => h
  | x :: xs, _, h => by
    unfold RUs at h ⊢
    obtain ⟨y, ys, e1, e2, e3⟩ := h
    exact ⟨y, ys, e1, RU.mono0 e e2, RUs.mono0 e e3⟩
end
theorem XR.mono0 (e : Ex0 r H r' H') {c : Nat} {xs : List U} {cls : Value} {d : Option Addr} (h : XR G xa r H c xs cls d) : XR G xa r' H' c xs cls d := by
  obtain ⟨e1, dd, fs, ws, e2, e3, e4, e5⟩ := h
  exact ⟨e1, dd, fs, ws, e2, e.xd _ _ e3, RUs.mono0 e e4, e5⟩
theorem RUs.len : ∀ {us : List U} {vs : List V}, RUs G xa r H us vs → us.length = vs.length
  | [], _, h => by
    unfold RUs at h
    rw [h]; rfl
  | x :: xs, _, h => by
    unfold RUs at h
    obtain ⟨y, ys, rfl, _, e3⟩ := h
    rw [List.length_cons, List.length_cons, RUs.len e3]
theorem RUs.get : ∀ {us : List U} {vs : List V} {i : Nat} {u : U}, RUs G xa r H us vs → us[i]? = some u → ∃ v, vs[i]? = some v ∧ RU G xa r H u v
  | [], _, _, _, _, h => by simp at h
  | x :: xs, _, 0, u, hs, h => by
    unfold RUs at hs
    obtain ⟨y, ys, rfl, e2, e3⟩ := hs
    have : x = u := by simpa using h
    exact ⟨y, rfl, this ▸ e2⟩
  | x :: xs, _, i + 1, u, hs, h => by
    unfold RUs at hs
    obtain ⟨y, ys, rfl, e2, e3⟩ := hs
    obtain ⟨v, h1, h2⟩ := RUs.get (i := i) e3 (by simpa using h)
    exact ⟨v, by simpa using h1, h2⟩
theorem RUs.app : ∀ {us ws : List U} {vs xs : List V}, RUs G xa r H us vs → RUs G xa r H ws xs → RUs G xa r H (us ++ ws) (vs ++ xs)
  | [], _, _, _, h, k => by
    unfold RUs at h
    rw [h]; exact k
  | x :: us, _, _, _, h, k => by
    unfold RUs at h
    obtain ⟨y, ys, rfl, e2, e3⟩ := h
    show RUs _ _ _ _ (x :: (us ++ _)) (y :: (ys ++ _))
    unfold RUs
    exact ⟨y, _, rfl, e2, RUs.app e3 k⟩
theorem RUs.nil : RUs G xa r H [] [] := by unfold RUs; rfl
theorem RUs.cons {u : U} {us : List U} {v : V} {vs : List V} (h : RU G xa r H u v) (k : RUs G xa r H us vs) : RUs G xa r H (u :: us) (v :: vs) := by
  unfold RUs
  exact ⟨v, vs, rfl, h, k⟩
theorem RUs.inv {u : U} {us : List U} {ws : List V} (h : RUs G xa r H (u :: us) ws) : ∃ v vs, ws = v :: vs ∧ RU G xa r H u v ∧ RUs G xa r H us vs := by
  unfold RUs at h
  exact h
theorem RUs.inv0 {ws : List V} (h : RUs G xa r H [] ws) : ws = [] := by
  unfold RUs at h
  exact h
theorem RUs.set : ∀ {us : List U} {vs : List V} {i : Nat} {u : U} {v : V}, RUs G xa r H us vs → RU G xa r H u v → RUs G xa r H (us.set i u) (vs.set i v)
  | [], _, _, _, _, h, _ => by
    rw [RUs.inv0 h]; exact RUs.nil
  | x :: xs, _, 0, u, v, h, k => by
    obtain ⟨y, ys, rfl, e2, e3⟩ := h.inv
    exact RUs.cons k e3
  | x :: xs, _, i + 1, u, v, h, k => by
    obtain ⟨y, ys, rfl, e2, e3⟩ := h.inv
    exact RUs.cons e2 (RUs.set e3 k)
theorem RUs.drop : ∀ {us : List U} {vs : List V} (n : Nat), RUs G xa r H us vs → RUs G xa r H (us.drop n) (vs.drop n)
  | us, vs, 0, h => by simpa using h
  | [], _, n + 1, h => by rw [RUs.inv0 h]; exact RUs.nil
  | x :: xs, _, n + 1, h => by
    obtain ⟨y, ys, rfl, e2, e3⟩ := h.inv
    exact RUs.drop n e3
theorem RUs.take : ∀ {us : List U} {vs : List V} (n : Nat), RUs G xa r H us vs → RUs G xa r H (us.take n) (vs.take n)
  | us, vs, 0, h => by simpa using (RUs.nil : RUs G xa r H [] [])
  | [], _, n + 1, h => by rw [RUs.inv0 h]; exact RUs.nil
  | x :: xs, _, n + 1, h => by
    obtain ⟨y, ys, rfl, e2, e3⟩ := h.inv
    exact RUs.cons e2 (RUs.take n e3)
theorem RKv.mono0 (e : Ex0 r H r' H') {us : List (DK × U)} {vs : List (Key × V)} (h : RKv G xa r H us vs) : RKv G xa r' H' us vs := Paired.mapP h fun _ _ p => ⟨p.1, p.2.mono0 e⟩
theorem RFs.mono0 (e : Ex0 r H r' H') {us : List (Nat × U)} {vs : List (Str × V)} (h : RFs G xa r H us vs) : RFs G xa r' H' us vs := Paired.mapP h fun _ _ p => ⟨p.1, p.2.mono0 e⟩
theorem RO.mono0 (e : Ex0 r H r' H') : ∀ {o : AO} {u : HO}, RO G xa r H o u → RO G xa r' H' o u
  | .lst xs, _, ⟨vs, h, k⟩ => ⟨vs, h, k.mono0 e⟩
  | .dic kvs, _, ⟨ks, h, k⟩ => ⟨ks, h, k.mono0 e⟩
  | .ins c fs, _, ⟨dx, gs, h, k⟩ => ⟨dx, gs, h, k.mono0 e⟩
  | .frz o, _, ⟨ob, u, h, k⟩ => ⟨ob, u, h, RO.mono0 e k⟩

theorem TupAt.mono {a : Addr} {xs : List V} (e : Ex r H r' H') (h : TupAt G.K H a xs) : TupAt G.K H' a xs := h.mono0 e.to0
theorem RU.mono (e : Ex r H r' H') {u : U} {v : V} (h : RU G xa r H u v) : RU G xa r' H' u v := h.mono0 e.to0
theorem RUs.mono (e : Ex r H r' H') {us : List U} {vs : List V} (h : RUs G xa r H us vs) : RUs G xa r' H' us vs := h.mono0 e.to0
theorem XR.mono (e : Ex r H r' H') {c : Nat} {xs : List U} {cls : Value} {d : Option Addr} (h : XR G xa r H c xs cls d) : XR G xa r' H' c xs cls d := h.mono0 e.to0
theorem RKv.mono (e : Ex r H r' H') {us : List (DK × U)} {vs : List (Key × V)} (h : RKv G xa r H us vs) : RKv G xa r' H' us vs := h.mono0 e.to0
theorem RFs.mono (e : Ex r H r' H') {us : List (Nat × U)} {vs : List (Str × V)} (h : RFs G xa r H us vs) : RFs G xa r' H' us vs := h.mono0 e.to0
theorem RO.mono (e : Ex r H r' H') {o : AO} {u : HO} (h : RO G xa r H o u) : RO G xa r' H' o u := h.mono0 e.to0

theorem ex_upd {p : Addr} {o : HO} (hp : H p = none) : Ex r H r (upd H p o) :=
  ⟨fun _ _ h => h, fun a xs h => by rw [upd_ne (ne_of_none h hp)]; exact h, fun a xs h => by rw [upd_ne (ne_of_none h hp)]; exact h, fun a o u h => by rw [upd_ne (ne_of_none h hp)]; exact h⟩
/-- something new that the reading doesn't see by place (a tuple) -/
theorem RS.beside {h : AH} {p : Addr} {o : HO} (R : RS G xa r h H) (hp : H p = none) : RS G xa r h (upd H p o) := by
  refine ⟨R.len, R.nd, fun n x a h1 h2 => ?_⟩
  obtain ⟨u, e1, e2⟩ := R.ob n x a h1 h2
  exact ⟨u, by rw [upd_ne (ne_of_none e1 hp)]; exact e1, e2.mono (ex_upd hp)⟩
theorem ex_new {p : Addr} {o : HO} (hp : H p = none) : Ex r H (r ++ [p]) (upd H p o) :=
  ⟨fun n a h => by
    have hn : n < r.length := (List.getElem?_eq_some_iff.mp h).1
    rw [List.getElem?_append_left hn]; exact h, (ex_upd (r := r) hp).tup, (ex_upd (r := r) hp).xd, (ex_upd (r := r) hp).frz⟩
/-- a new object of the reading -/
theorem RS.new {h : AH} {p : Addr} {o : AO} {u : HO} (R : RS G xa r h H) (hp : H p = none) (ho : RO G xa (r ++ [p]) (upd H p u) o u) : RS G xa (r ++ [p]) (h ++ [o]) (upd H p u) := by
  refine ⟨by simp [R.len], ?_, fun n x a h1 h2 => ?_⟩
  · refine List.nodup_append.mpr ⟨R.nd, by simp, ?_⟩
    intro a ha b hb
    have hb' : b = p := by simpa using hb
    subst hb'
    intro e
    subst e
    obtain ⟨n, hn, e⟩ := List.getElem_of_mem ha
    have hn' : n < h.length := by rw [← R.len]; exact hn
    obtain ⟨u, e1, _⟩ := R.ob n h[n] a (by simp [hn']) (by rw [List.getElem?_eq_getElem hn, e])
    rw [hp] at e1; cases e1
  · by_cases hn : n < h.length
    · rw [List.getElem?_append_left hn] at h1
      rw [List.getElem?_append_left (by rw [R.len]; exact hn)] at h2
      obtain ⟨w, e1, e2⟩ := R.ob n x a h1 h2
      exact ⟨w, by rw [upd_ne (ne_of_none e1 hp)]; exact e1, e2.mono (ex_new hp)⟩
    · rw [List.getElem?_append_right (by omega)] at h1
      rw [List.getElem?_append_right (by rw [R.len]; omega)] at h2
      have e0 : n - h.length = 0 := by
        have := (List.getElem?_eq_some_iff.mp h1).1
        simp at this
        omega
      rw [e0] at h1
      rw [show n - r.length = 0 by rw [R.len]; exact e0] at h2
      have e1 : o = x := by simpa using h1
      have e2 : p = a := by simpa using h2
      subst e1 e2
      exact ⟨u, upd_same, ho⟩
def mutO : HO → Prop
  | .tup _ => False
  | .xd _ => False
  | .frz _ _ => False
  | _ => True
theorem ex_write {a : Addr} {o u : HO} (ha : H a = some u) (m : mutO u) : Ex r H r (upd H a o) := by
  have ne : ∀ {b : Addr} {x : HO}, H b = some x → ¬ mutO x → b ≠ a := fun {b x} h k e => by
    subst e
    rw [ha] at h
    cases h
    exact k m
  exact ⟨fun _ _ h => h, fun b xs h => by rw [upd_ne (ne h (fun z => z))]; exact h, fun b xs h => by rw [upd_ne (ne h (fun z => z))]; exact h, fun b o u h => by rw [upd_ne (ne h (fun z => z))]; exact h⟩
/-- the object at a place is another one -/
theorem RS.write {h : AH} {n : Nat} {a : Addr} {o : AO} {u u0 : HO} (R : RS G xa r h H) (hn : r[n]? = some a) (h0 : H a = some u0) (m : mutO u0) (ho : RO G xa r (upd H a u) o u) : RS G xa r (h.set n o) (upd H a u) := by
  refine ⟨by simp [R.len], R.nd, fun k x b h1 h2 => ?_⟩
  by_cases e : k = n
  · subst e
    have hl : k < h.length := by rw [← R.len]; exact (List.getElem?_eq_some_iff.mp hn).1
    rw [List.getElem?_set_self hl] at h1
    have e1 : o = x := by simpa using h1
    have e2 : a = b := by rw [hn] at h2; simpa using h2
    subst e1 e2
    exact ⟨u, upd_same, ho⟩
  · rw [List.getElem?_set_ne (Ne.symm e)] at h1
    obtain ⟨w, e1, e2⟩ := R.ob k x b h1 h2
    have hba : b ≠ a := by
      intro z
      subst z
      have k1 : k < r.length := (List.getElem?_eq_some_iff.mp h2).1
      have k2 : n < r.length := (List.getElem?_eq_some_iff.mp hn).1
      have := (List.getElem?_inj k1 R.nd).mp (h2.trans hn.symm)
      exact e this
    exact ⟨w, by rw [upd_ne hba]; exact e1, e2.mono (ex_write h0 m)⟩
/-- the lock is taken off -/
theorem ex_unlock {a : Addr} {ob : Obj} {o u x : HO} (ha : H a = some (.frz ob x)) : Ex0 r H r (upd H a o) := by
  have ne : ∀ {b : Addr} {y : HO}, H b = some y → y ≠ .frz ob x → b ≠ a := fun {b y} h k e => by
    subst e
    rw [ha] at h
    cases h
    exact k rfl
  exact ⟨fun _ _ h => h, fun b xs h => by rw [upd_ne (ne h (by intro z; cases z))]; exact h, fun b xs h => by rw [upd_ne (ne h (by intro z; cases z))]; exact h⟩
theorem RS.unlock {h : AH} {n : Nat} {a : Addr} {o : AO} {u x : HO} {ob : Obj} (R : RS G xa r h H) (hn : r[n]? = some a) (h0 : H a = some (.frz ob x)) (ho : RO G xa r H o u) : RS G xa r (h.set n o) (upd H a u) := by
  have X : Ex0 r H r (upd H a u) := ex_unlock (u := u) h0
  refine ⟨by simp [R.len], R.nd, fun k y b h1 h2 => ?_⟩
  by_cases e : k = n
  · subst e
    have hl : k < h.length := by rw [← R.len]; exact (List.getElem?_eq_some_iff.mp hn).1
    rw [List.getElem?_set_self hl] at h1
    have e1 : o = y := by simpa using h1
    have e2 : a = b := by rw [hn] at h2; simpa using h2
    subst e1 e2
    exact ⟨u, upd_same, ho.mono0 X⟩
  · rw [List.getElem?_set_ne (Ne.symm e)] at h1
    obtain ⟨w, e1, e2⟩ := R.ob k y b h1 h2
    have hba : b ≠ a := by
      intro z
      subst z
      have k1 : k < r.length := (List.getElem?_eq_some_iff.mp h2).1
      have k2 : n < r.length := (List.getElem?_eq_some_iff.mp hn).1
      have := (List.getElem?_inj k1 R.nd).mp (h2.trans hn.symm)
      exact e this
    exact ⟨w, by rw [upd_ne hba]; exact e1, e2.mono0 X⟩
end
end EvS
/-! EvB: readings by what the functional reading gives; operators. -/
namespace EvS
open PySem PySem.Spec PyProof.Rows L2
open Ev (U AO AH DK)

def REn (G : Sig) (xa : Xa) (r : List Addr) (H : Hp) (e : Ev.Env) (s : L2.St) : Prop :=
  e.length = s.length ∧ ∀ (i : Nat) (u : U), e[i]? = some (some u) → ∃ v : V, s[i]? = some (some v) ∧ RU G xa r H u v
theorem REn.mono {G : Sig} {xa : Xa} {r r' : List Addr} {H H' : Hp} {e : Ev.Env} {s : L2.St} (x : Ex r H r' H') (h : REn G xa r H e s) : REn G xa r' H' e s :=
  ⟨h.1, fun i u q => let ⟨v, a, b⟩ := h.2 i u q; ⟨v, a, b.mono x⟩⟩
theorem REn.set {G : Sig} {xa : Xa} {r : List Addr} {H : Hp} {e : Ev.Env} {s : L2.St} {i : Nat} {u : U} {v : V} (h : REn G xa r H e s) (k : RU G xa r H u v) : REn G xa r H (e.set i (some u)) (s.set i (some v)) := by
  refine ⟨by simp [h.1], fun j w q => ?_⟩
  by_cases ij : i = j
  · subst ij
    by_cases hl : i < e.length
    · rw [List.getElem?_set_self hl] at q
      have : u = w := by simpa using q
      subst this
      exact ⟨v, by rw [List.getElem?_set_self (by rw [← h.1]; exact hl)], k⟩
    · rw [List.getElem?_eq_none (by simpa using hl)] at q
      cases q
  · rw [List.getElem?_set_ne ij] at q
    obtain ⟨v', a, b⟩ := h.2 j w q
    exact ⟨v', by rw [List.getElem?_set_ne ij]; exact a, b⟩
theorem REn.unset {G : Sig} {xa : Xa} {r : List Addr} {H : Hp} {e : Ev.Env} {s : L2.St} {i : Nat} (h : REn G xa r H e s) : REn G xa r H (e.set i none) (s.set i none) := by
  refine ⟨by simp [h.1], fun j w q => ?_⟩
  by_cases ij : i = j
  · subst ij
    by_cases hl : i < e.length
    · rw [List.getElem?_set_self hl] at q
      cases q
    · rw [List.getElem?_eq_none (by simpa using hl)] at q
      cases q
  · rw [List.getElem?_set_ne ij] at q
    obtain ⟨v', a, b⟩ := h.2 j w q
    exact ⟨v', by rw [List.getElem?_set_ne ij]; exact a, b⟩

/-- what is wanted of an exception, the slots known -/
abbrev WK := Value → Option Addr → Hp → Prop
section
variable (G : Sig) (xa : Xa)
/-- what must hold so that an outcome of the reading leads to Q -/
def Post {α β : Type} (rel : List Addr → Hp → α → β → Prop) (o : Ev.R α) (r : List Addr) (H : Hp) (Q : β → Hp → Prop) (W : WK) : Prop :=
  match o with
  | .ok u h => ∀ (r' : List Addr) (H' : Hp) (v : β), Ex r H r' H' → RS G xa r' h H' → rel r' H' u v → Q v H'
  | .exc c xs h => ∀ (r' : List Addr) (H' : Hp) (cls : Value) (d : Option Addr), Ex r H r' H' → RS G xa r' h H' → XR G xa r' H' c xs cls d → W cls d H'
  | .bad => False
end
section
variable {G : Sig} {xa : Xa}
theorem Post.mono {α β : Type} {rel : List Addr → Hp → α → β → Prop} {o : Ev.R α} {r r1 : List Addr} {H H1 : Hp} {Q : β → Hp → Prop} {W : WK} (x : Ex r H r1 H1) (h : Post G xa rel o r H Q W) : Post G xa rel o r1 H1 Q W := by
  cases o with
  | ok u a => exact fun r' H' v x' R k => h r' H' v (x.trans x') R k
  | exc c xs a => exact fun r' H' cls d x' R k => h r' H' cls d (x.trans x') R k
  | bad => exact h
theorem Post.okI {α β : Type} {rel : List Addr → Hp → α → β → Prop} {u : α} {h : AH} {r : List Addr} {H : Hp} {Q : β → Hp → Prop} {W : WK} {v : β} (p : Post G xa rel (.ok u h) r H Q W) (R : RS G xa r h H) (k : rel r H u v) : Q v H :=
  p r H v (Ex.refl _ _) R k
end

/-- values, lists of values, truths -/
def rlU (G : Sig) (xa : Xa) : List Addr → Hp → U → V → Prop := RU G xa
def rlUs (G : Sig) (xa : Xa) : List Addr → Hp → List U → List V → Prop := RUs G xa
def rlB : List Addr → Hp → Bool → Bool → Prop := fun _ _ a b => a = b

section
variable (G : Sig) (xa : Xa) (W : WX) (n : Nat)
abbrev evE := Ev.evE G.Γ (Ev.callF G.Γ G.T n)
abbrev evEs := Ev.evEs G.Γ (Ev.callF G.Γ G.T n)
/-- an expression's reading -/
def tE (x : Ev.E) : TE := fun s H Q => ∃ (r : List Addr) (e : Ev.Env) (h : AH), RS G xa r h H ∧ REn G xa r H e s ∧ Post G xa (rlU G xa) (evE G n x e h) r H Q (fun c d => W c d s)
def tEs (x : Ev.E) : TA := fun s H Q => ∃ (r : List Addr) (e : Ev.Env) (h : AH), RS G xa r h H ∧ REn G xa r H e s ∧ Post G xa (rlUs G xa) (evEs G n x e h) r H Q (fun c d => W c d s)
def tT (x : Ev.E) : TT := fun s H Q => ∃ (r : List Addr) (e : Ev.Env) (h : AH), RS G xa r h H ∧ REn G xa r H e s ∧ Post G xa rlB (Ev.truR (evE G n x e h)) r H Q (fun c d => W c d s)
end
theorem PE.imp {X : Cx} {e : Expr} {t t' : TE} (h : PE X e t) (k : ∀ s H Q, t' s H Q → t s H Q) : PE X e t' := ⟨fun pins s σ H Q I q => h.run pins s σ H Q I (k σ H Q q)⟩
theorem PA.imp {X : Cx} {e : List Expr} {t t' : TA} (h : PA X e t) (k : ∀ s H Q, t' s H Q → t s H Q) : PA X e t' := ⟨fun pos pins s σ H Q I q => h.run pos pins s σ H Q I (k σ H Q q)⟩
theorem PT.imp {X : Cx} {e : Expr} {t t' : TT} (h : PT X e t) (k : ∀ s H Q, t' s H Q → t s H Q) : PT X e t' := ⟨fun pins s σ H Q I q => h.run pins s σ H Q I (k σ H Q q)⟩
theorem PW.imp {X : Cx} {e : Expr} {t t' : TT} (h : PW X e t) (k : ∀ s H Q, t' s H Q → t s H Q) : PW X e t' := ⟨fun wh pins s σ H Q I q => h.run wh pins s σ H Q I (k σ H Q q)⟩

section
variable {G : Sig} {xa : Xa} {W : WX} {n : Nat} {r : List Addr} {e : Ev.Env} {h : AH} {s : L2.St} {H : Hp}
/-- an expression first, then the rest -/
theorem tE_bind {β : Type} {α : Type} {rel : List Addr → Hp → α → β → Prop} {x : Ev.E} {f : U → AH → Ev.R α} {Q : β → Hp → Prop} {Q1 : VK} (R : RS G xa r h H) (E : REn G xa r H e s)
    (p : Post G xa rel ((evE G n x e h).bind f) r H Q (fun c d => W c d s))
    (k : ∀ r1 H1 u v h1, Ex r H r1 H1 → RS G xa r1 h1 H1 → REn G xa r1 H1 e s → RU G xa r1 H1 u v → Post G xa rel (f u h1) r1 H1 Q (fun c d => W c d s) → Q1 v H1) : tE G xa W n x s H Q1 := by
  refine ⟨r, e, h, R, E, ?_⟩
  cases z : evE G n x e h with
  | ok u h1 =>
    rw [z] at p
    exact fun r1 H1 v X1 R1 k1 => k r1 H1 u v h1 X1 R1 (E.mono X1) k1 (Post.mono X1 p)
  | exc c xs h1 =>
    rw [z] at p
    exact p
  | bad =>
    rw [z] at p
    exact p
theorem tEs_bind {β : Type} {α : Type} {rel : List Addr → Hp → α → β → Prop} {x : Ev.E} {f : List U → AH → Ev.R α} {Q : β → Hp → Prop} {Q1 : List V → Hp → Prop} (R : RS G xa r h H) (E : REn G xa r H e s)
    (p : Post G xa rel ((evEs G n x e h).bind f) r H Q (fun c d => W c d s))
    (k : ∀ r1 H1 u v h1, Ex r H r1 H1 → RS G xa r1 h1 H1 → REn G xa r1 H1 e s → RUs G xa r1 H1 u v → Post G xa rel (f u h1) r1 H1 Q (fun c d => W c d s) → Q1 v H1) : tEs G xa W n x s H Q1 := by
  refine ⟨r, e, h, R, E, ?_⟩
  cases z : evEs G n x e h with
  | ok u h1 =>
    rw [z] at p
    exact fun r1 H1 v X1 R1 k1 => k r1 H1 u v h1 X1 R1 (E.mono X1) k1 (Post.mono X1 p)
  | exc c xs h1 =>
    rw [z] at p
    exact p
  | bad =>
    rw [z] at p
    exact p
theorem tT_bind {β : Type} {α : Type} {rel : List Addr → Hp → α → β → Prop} {x : Ev.E} {f : Bool → AH → Ev.R α} {Q : β → Hp → Prop} {Q1 : Bool → Hp → Prop} (R : RS G xa r h H) (E : REn G xa r H e s)
    (p : Post G xa rel ((Ev.truR (evE G n x e h)).bind f) r H Q (fun c d => W c d s))
    (k : ∀ r1 H1 u h1, Ex r H r1 H1 → RS G xa r1 h1 H1 → REn G xa r1 H1 e s → Post G xa rel (f u h1) r1 H1 Q (fun c d => W c d s) → Q1 u H1) : tT G xa W n x s H Q1 := by
  refine ⟨r, e, h, R, E, ?_⟩
  cases z : Ev.truR (evE G n x e h) with
  | ok u h1 =>
    rw [z] at p
    intro r1 H1 v X1 R1 k1
    cases (show u = v from k1)
    exact k r1 H1 u h1 X1 R1 (E.mono X1) (Post.mono X1 p)
  | exc c xs h1 =>
    rw [z] at p
    exact p
  | bad =>
    rw [z] at p
    exact p
end

/-! ### two-place operators by values -/
def rB (G : Sig) (xa : Xa) (f : U → U → AH → Ev.R U) (W : WK) : R2 := fun x y H Q => ∃ (r : List Addr) (h : AH) (u v : U), RS G xa r h H ∧ RU G xa r H u x ∧ RU G xa r H v y ∧ Post G xa (rlU G xa) (f u v h) r H Q W
theorem lim_ok {k : Nat} (h : k ≤ Ev.lim) : k ≤ sizeLine := Nat.le_trans h (by decide)
theorem lim_lt {k : Nat} (h : k < Ev.lim) : k < sizeLine := Nat.lt_of_lt_of_le h (by decide)
def bop : Ev.BOp → Operator
  | .add => .Add | .sub => .Sub | .mul => .Mult | .fdiv => .FloorDiv | .mod => .Mod | .pow => .Pow | .step => .Add
section
variable {G : Sig} {xa : Xa} {r : List Addr} {h : AH} {H : Hp}
theorem RS.lst {k : Nat} {xs : List U} {v : V} (R : RS G xa r h H) (e : Ev.lstW h k = some xs) (q : RU G xa r H (.ref k) v) : ∃ a vs, v = .ref a ∧ r[k]? = some a ∧ H a = some (.lst vs) ∧ RUs G xa r H xs vs := by
  unfold RU at q
  obtain ⟨a, h1, rfl⟩ := q
  unfold Ev.lstW at e
  split at e
  · rename_i ys z
    cases e
    obtain ⟨u, e1, vs, rfl, e2⟩ := R.ob k _ a z h1
    exact ⟨a, vs, rfl, h1, e1, e2⟩
  · cases e
theorem RS.lstR {k : Nat} {xs : List U} {v : V} (R : RS G xa r h H) (e : Ev.lstAt h k = some xs) (q : RU G xa r H (.ref k) v) : ∃ a vs, v = .ref a ∧ r[k]? = some a ∧ Rd H a (.lst vs) ∧ RUs G xa r H xs vs := by
  unfold RU at q
  obtain ⟨a, h1, rfl⟩ := q
  unfold Ev.lstAt at e
  split at e
  · rename_i ys z
    cases e
    obtain ⟨u, e1, vs, rfl, e2⟩ := R.ob k _ a z h1
    exact ⟨a, vs, rfl, h1, .inl e1, e2⟩
  · rename_i ys z
    cases e
    obtain ⟨u, e1, ob, w, rfl, vs, rfl, e2⟩ := R.ob k _ a z h1
    exact ⟨a, vs, rfl, h1, .inr ⟨ob, e1⟩, e2⟩
  · cases e
theorem RS.lstL {k : Nat} {xs : List U} {v : V} (R : RS G xa r h H) (e : Ev.lstAt h k = some xs) (q : RU G xa r H (.ref k) v) : ∃ a vs, v = .ref a ∧ SqL G.K H a vs ∧ RUs G xa r H xs vs := by
  obtain ⟨a, vs, e1, _, e2, e3⟩ := R.lstR e q
  exact ⟨a, vs, e1, .inl e2, e3⟩
theorem RS.dicR {k : Nat} {xs : List (DK × U)} {v : V} (R : RS G xa r h H) (e : Ev.dicAt h k = some xs) (q : RU G xa r H (.ref k) v) : ∃ a vs, v = .ref a ∧ r[k]? = some a ∧ Rd H a (.dK vs) ∧ RKv G xa r H xs vs := by
  unfold RU at q
  obtain ⟨a, h1, rfl⟩ := q
  unfold Ev.dicAt at e
  split at e
  · rename_i ys z
    cases e
    obtain ⟨u, e1, vs, rfl, e2⟩ := R.ob k _ a z h1
    exact ⟨a, vs, rfl, h1, .inl e1, e2⟩
  · rename_i ys z
    cases e
    obtain ⟨u, e1, ob, w, rfl, vs, rfl, e2⟩ := R.ob k _ a z h1
    exact ⟨a, vs, rfl, h1, .inr ⟨ob, e1⟩, e2⟩
  · cases e
theorem RS.dicWr {k : Nat} {xs : List (DK × U)} {v : V} (R : RS G xa r h H) (e : Ev.dicW h k = some xs) (q : RU G xa r H (.ref k) v) : ∃ a vs, v = .ref a ∧ r[k]? = some a ∧ H a = some (.dK vs) ∧ RKv G xa r H xs vs := by
  unfold RU at q
  obtain ⟨a, h1, rfl⟩ := q
  unfold Ev.dicW at e
  split at e
  · rename_i ys z
    cases e
    obtain ⟨u, e1, vs, rfl, e2⟩ := R.ob k _ a z h1
    exact ⟨a, vs, rfl, h1, e1, e2⟩
  · cases e
theorem RS.insR {k c : Nat} {xs : List (Nat × U)} {v : V} (R : RS G xa r h H) (e : Ev.insAt h k = some (c, xs)) (q : RU G xa r H (.ref k) v) : ∃ a dx vs, v = .ref a ∧ r[k]? = some a ∧ H a = some (.ins (G.ca c) dx vs) ∧ RFs G xa r H xs vs := by
  unfold RU at q
  obtain ⟨a, h1, rfl⟩ := q
  unfold Ev.insAt at e
  split at e
  · rename_i c' ys z
    cases e
    obtain ⟨u, e1, dx, vs, rfl, e2⟩ := R.ob k _ a z h1
    exact ⟨a, dx, vs, rfl, h1, e1, e2⟩
  · cases e
/-- a new list is the answer -/
theorem Post.newL {xs : List U} {vs : List V} {Q : VK} {W : WK} {p : Addr} (P : Post G xa (rlU G xa) (Ev.newL h xs) r H Q W) (R : RS G xa r h H) (k : RUs G xa r H xs vs) (hp : H p = none) : Q (.ref p) (upd H p (.lst vs)) := by
  refine P (r ++ [p]) (upd H p (.lst vs)) (.ref p) (ex_new hp) (R.new hp ⟨vs, rfl, k.mono (ex_new hp)⟩) ?_
  refine ⟨p, ?_, rfl⟩
  rw [← R.len]
  simp
theorem Post.newT {xs : List U} {vs : List V} {Q : VK} {W : WK} {p : Addr} (P : Post G xa (rlU G xa) (.ok (.tup xs) h) r H Q W) (R : RS G xa r h H) (k : RUs G xa r H xs vs) (hp : H p = none) : Q (.ref p) (upd H p (.tup vs)) := by
  refine P r (upd H p (.tup vs)) (.ref p) (ex_upd hp) (R.beside hp) ?_
  exact ⟨p, vs, rfl, .inl upd_same, k.mono (ex_upd hp)⟩
theorem Post.okV {u : U} {v : V} {Q : VK} {W : WK} (P : Post G xa (rlU G xa) (.ok u h) r H Q W) (R : RS G xa r h H) (k : RU G xa r H u v) : Q v H := Post.okI P R k
end
section
variable {X : Cx} {G : Sig} {xa : Xa}
theorem mkS_app (a b : List Nat) : mkS a ++ mkS b = mkS (a ++ b) := by
  show Str.append (mkS a) (mkS b) = mkS (a ++ b)
  simp [mkS, Str.append]
theorem mkS_len (a : List Nat) : (mkS a).length = a.length := by
  simp [mkS, Str.length]
theorem op_bin (hK : X.K = G.K) (op : Ev.BOp) (hst : op ≠ .step) (W : WK) : OpR X (binaryOp (bop op)) (rB G xa (Ev.evBin op) W) := by
  intro pins s σ H x y v u Q I rx ry ⟨r, h, a, b, R, ka, kb, P⟩
  unfold Ev.evBin at P
  split at P
  case _ i j => exact op_add pins s σ H x y v u Q I rx ry ⟨i, j, ka, kb, P.okV R rfl⟩
  case _ i j => exact op_sub pins s σ H x y v u Q I rx ry ⟨i, j, ka, kb, P.okV R rfl⟩
  case _ i j =>
    split at P
    case isTrue c => exact op_mul pins s σ H x y v u Q I rx ry ⟨i, j, ka, kb, c, P.okV R rfl⟩
    case isFalse => exact P.elim
  case _ i j =>
    split at P
    case isTrue c => exact op_fdiv pins s σ H x y v u Q I rx ry ⟨i, j, ka, kb, c, P.okV R rfl⟩
    case isFalse => exact P.elim
  case _ i j =>
    split at P
    case isTrue c => exact op_mod pins s σ H x y v u Q I rx ry ⟨i, j, ka, kb, c, P.okV R rfl⟩
    case isFalse => exact P.elim
  case _ i j =>
    split at P
    case isTrue c => exact op_pow pins s σ H x y v u Q I rx ry ⟨i, j, ka, kb, c, P.okV R rfl⟩
    case isFalse => exact P.elim
  case _ i j =>
    split at P
    case isTrue c =>
      refine op_add_str pins s σ H x y v u Q I rx ry ⟨mkS i, mkS j, ka, kb, ?_, ?_⟩
      · rw [mkS_len, mkS_len]
        exact lim_ok c
      · rw [mkS_app]
        exact P.okV R rfl
    case isFalse => exact P.elim
  case _ i j =>
    split at P
    case isTrue c =>
      obtain ⟨p, vs, rfl, t1, k1⟩ := ka
      obtain ⟨q, ws, rfl, t2, k2⟩ := kb
      have l1 := k1.len
      have l2 := k2.len
      refine op_catT pins s σ H _ _ v u Q I rx ry ⟨p, q, vs, ws, rfl, rfl, by rw [hK]; exact t1.sq, by rw [hK]; exact t2.sq, ?_, ?_, ?_, ?_⟩
      · intro z
        rw [z] at l1
        exact c.1 (List.length_eq_zero_iff.mp l1)
      · rw [← l1, ← l2]
        exact lim_ok c.2
      · intro z
        subst z
        have : j = [] := List.length_eq_zero_iff.mp l2
        subst this
        refine P.okV R ⟨p, vs, rfl, t1, ?_⟩
        rw [List.append_nil]
        exact k1
      · intro _ p' hp
        exact P.newT R (k1.app k2) hp
    case isFalse => exact P.elim
  case _ i j =>
    split at P
    case _ xs ys e1 e2 =>
      split at P
      case isTrue c =>
        obtain ⟨p, vs, rfl, _, t1, k1⟩ := R.lst e1 ka
        obtain ⟨q, ws, rfl, _, t2, k2⟩ := R.lst e2 kb
        refine op_cat pins s σ H _ _ v u Q I rx ry ⟨p, q, vs, ws, rfl, rfl, t1, t2, ?_, fun p' hp => Post.newL P R (k1.app k2) hp⟩
        rw [← k1.len, ← k2.len]
        exact lim_ok c
      case isFalse => exact P.elim
    case _ => exact P.elim
  case _ => exact absurd rfl hst
  case _ => exact absurd rfl hst
  case _ => exact P.elim
end
end EvS
/-! EvC: ==, comparisons, truth. -/
namespace EvS
open PySem PySem.Spec PyProof.Rows L2
open Ev (U AO AH DK)
open SeqAt (EqAt RcAt)

open SeqAt (RcNeAt)
section
variable {X : Cx} {G : Sig} {xa : Xa} {r : List Addr} {h : AH} {H : Hp} {pins : List (Addr × Obj)} {σ : L2.St} {s : Shared}
theorem allEq_at {f : U → U → Option Bool} : ∀ {xs ys : List U} {b : Bool}, Ev.allEq f xs ys = some b →
    ∃ e : Nat → Bool, (∀ (j : Nat) (x y : U), xs[j]? = some x → ys[j]? = some y → f x y = some (e j)) ∧ b = (List.range (min xs.length ys.length)).all e := by
  intro xs
  induction xs with
  | nil =>
    intro ys b q
    refine ⟨fun _ => true, fun j x y h1 => by simp at h1, ?_⟩
    have : b = true := by simpa [Ev.allEq] using q.symm
    simp [this]
  | cons x xs ih =>
    intro ys b q
    cases ys with
    | nil =>
      refine ⟨fun _ => true, fun j x y _ h1 => by simp at h1, ?_⟩
      have : b = true := by simpa [Ev.allEq] using q.symm
      simp [this]
    | cons y ys =>
      unfold Ev.allEq at q
      split at q
      case _ a c e1 e2 =>
        obtain ⟨e, k1, k2⟩ := ih e2
        refine ⟨fun j => match j with | 0 => a | j + 1 => e j, fun j x' y' h1 h2 => ?_, ?_⟩
        · cases j with
          | zero =>
            have z1 : x = x' := by simpa using h1
            have z2 : y = y' := by simpa using h2
            rw [← z1, ← z2]; exact e1
          | succ j => exact k1 j x' y' (by simpa using h1) (by simpa using h2)
        · have z : b = (a && c) := by simpa using q.symm
          rw [z, k2]
          show _ = (List.range (min (xs.length + 1) (ys.length + 1))).all _
          rw [show min (xs.length + 1) (ys.length + 1) = min xs.length ys.length + 1 by omega, List.range_succ_eq_map]
          simp [List.all_map, Function.comp_def]
      case _ => cases q
theorem sameOr_or {f : U → U → Option Bool} {u v : U} {b : Bool} (q : Ev.sameOr f u v = some b) : (∃ a, u = .ref a ∧ v = .ref a ∧ b = true) ∨ f u v = some b := by
  unfold Ev.sameOr at q
  split at q
  · split at q
    · rename_i a b' e
      subst e
      exact .inl ⟨a, rfl, rfl, (Option.some.inj q).symm⟩
    · exact .inr q
  · exact .inr q
theorem tup_same (hK : X.K = G.K) (I : Inv X pins σ H s) {a : Addr} {vs ws : List V} (t : TupAt G.K H a vs) (t' : TupAt G.K H a ws) : vs = ws :=
  I.tuple_inj (by rw [hK]; exact t.sq) (by rw [hK]; exact t'.sq)
/-- what stands for one and the same is equal -/
theorem eq_self (hK : X.K = G.K) (I : Inv X pins σ H s) (R : RS G xa r h H) : ∀ (n : Nat) (u v : U) (x : V) (b : Bool), RU G xa r H u x → RU G xa r H v x → Ev.eqTop n h u v = some b → b = true := by
  intro n
  induction n with
  | zero => intro u v x b _ _ q; cases q
  | succ n ih =>
    have all : ∀ {xs ys : List U} {vs : List V} {b : Bool}, RUs G xa r H xs vs → RUs G xa r H ys vs → Ev.allEq (Ev.sameOr (Ev.eqTop n h)) xs ys = some b → b = true := by
      intro xs ys vs b k1 k2 q
      obtain ⟨e, e1, e2⟩ := allEq_at q
      rw [e2]
      refine List.all_eq_true.mpr fun j hj => ?_
      have hj' : j < min xs.length ys.length := List.mem_range.mp hj
      have l1 : j < xs.length := by omega
      have l2 : j < ys.length := by omega
      obtain ⟨v1, g1, k1'⟩ := k1.get (List.getElem?_eq_getElem l1)
      obtain ⟨v2, g2, k2'⟩ := k2.get (List.getElem?_eq_getElem l2)
      have : v1 = v2 := by rw [g1] at g2; exact Option.some.inj g2
      subst this
      have q2 := e1 j _ _ (List.getElem?_eq_getElem l1) (List.getElem?_eq_getElem l2)
      rcases sameOr_or q2 with ⟨_, _, _, z⟩ | q2
      · exact z
      · exact ih _ _ _ _ k1' k2' q2
    intro u v x b k1 k2 q
    unfold Ev.eqTop at q
    split at q
    all_goals try (cases q; rfl)
    all_goals try (simp only [RU] at k1 k2; rw [k1] at k2; first | (cases k2; cases q; simp; done) | cases k2; done)
    case _ xs ys =>
      obtain ⟨a, vs, rfl, t1, k1⟩ := k1
      obtain ⟨a', ws, e, t2, k2⟩ := k2
      cases e
      cases tup_same hK I t1 t2
      obtain ⟨c, e1, e2⟩ := Option.map_eq_some_iff.mp q
      rw [← e2, all k1 k2 e1, k1.len, k2.len]
      simp
    all_goals try (obtain ⟨a, vs, rfl, t1, k1⟩ := k1; unfold RU at k2; cases k2; done)
    all_goals try (obtain ⟨a, vs, rfl, t1, k2⟩ := k2; unfold RU at k1; cases k1; done)
    case _ m k =>
      have k1' := k1
      have k2' := k2
      obtain ⟨a, h1, rfl⟩ := k1
      obtain ⟨a', h2, e⟩ := k2
      cases e
      have hl : m < r.length := (List.getElem?_eq_some_iff.mp h1).1
      have mk : m = k := (List.getElem?_inj hl R.nd).mp (h1.trans h2.symm)
      subst mk
      split at q
      · rename_i xs ys e1 e2
        rw [e1] at e2
        cases e2
        rw [if_pos rfl] at q
        obtain ⟨_, vs, _, _, k3⟩ := R.lstL e1 k1'
        exact all k3 k3 q
      · cases q
    case _ m xs =>
      obtain ⟨ys, e1, e2⟩ := Option.map_eq_some_iff.mp q
      obtain ⟨a, vs, rfl, t1, _⟩ := R.lstL e1 k1
      obtain ⟨a', ws, e, t2, _⟩ := k2
      cases e
      obtain ⟨_, _, p1, _⟩ := I.list (by rw [hK]; exact t1)
      obtain ⟨_, _, p2, _⟩ := I.tuple (by rw [hK]; exact t2.sq)
      exact absurd rfl (SeqAt.ne_of_list_tuple p1.isList p2)
    case _ xs m =>
      obtain ⟨ys, e1, e2⟩ := Option.map_eq_some_iff.mp q
      obtain ⟨a, vs, rfl, t1, _⟩ := R.lstL e1 k2
      obtain ⟨a', ws, e, t2, _⟩ := k1
      cases e
      obtain ⟨_, _, p1, _⟩ := I.list (by rw [hK]; exact t1)
      obtain ⟨_, _, p2, _⟩ := I.tuple (by rw [hK]; exact t2.sq)
      exact absurd rfl (SeqAt.ne_of_list_tuple p1.isList p2)
    all_goals first
      | (cases q; done)
      | (obtain ⟨a, h1, rfl⟩ := k1; unfold RU at k2; cases k2; done)
      | (obtain ⟨a, h1, rfl⟩ := k2; unfold RU at k1; cases k1; done)
theorem mkS_beq (a b : List Nat) : (mkS a == mkS b) = (a == b) := by
  by_cases e : a = b
  · subst e; simp
  · rw [beq_eq_false_iff_ne.mpr e]
    exact beq_eq_false_iff_ne.mpr fun z => e (mkS_inj z)
/-- == and != of what the reading compares; and within a container -/
theorem eq_run (hK : X.K = G.K) (I : Inv X pins σ H s) (R : RS G xa r h H) : ∀ (n : Nat) (A : Around), A.units + n < cLine → ∀ (u v : U) (x y : V) (xv yv : Value) (b : Bool), RU G xa r H u x → RU G xa r H v y → RelV x xv → RelV y yv →
    Ev.eqTop n h u v = some b → RcAt A s xv yv b ∧ RcNeAt A s xv yv (!b) ∧ EqAt A s xv yv b := by
  intro n
  induction n with
  | zero => intro A _ u v x y xv yv b _ _ _ _ q; cases q
  | succ n ih =>
    intro A hu
    have hu0 : A.units < cLine := by omega
    have hu1 : A.in1.units + n < cLine := by show A.units + 1 + n < cLine; omega
    have all : ∀ {xs ys : List U} {vs ws : List V} {us zs : List Value} {b : Bool}, RUs G xa r H xs vs → RUs G xa r H ys ws → Vals vs us → Vals ws zs → Ev.allEq (Ev.sameOr (Ev.eqTop n h)) xs ys = some b →
        ∃ e : Nat → Bool, (∀ j (h1 : j < us.toArray.size) (h2 : j < zs.toArray.size), EqAt A.in1 s us.toArray[j] zs.toArray[j] (e j)) ∧ b = (List.range (min us.toArray.size zs.toArray.size)).all e := by
      intro xs ys vs ws us zs b k1 k2 r1 r2 q
      obtain ⟨e, e1, e2⟩ := allEq_at q
      refine ⟨e, fun j h1 h2 => ?_, ?_⟩
      · have l1 : j < vs.length := by rw [r1.length]; simpa using h1
        have l2 : j < ws.length := by rw [r2.length]; simpa using h2
        have m1 : j < xs.length := by rw [k1.len]; exact l1
        have m2 : j < ys.length := by rw [k2.len]; exact l2
        obtain ⟨v1, g1, k1'⟩ := k1.get (List.getElem?_eq_getElem m1)
        obtain ⟨v2, g2, k2'⟩ := k2.get (List.getElem?_eq_getElem m2)
        obtain ⟨u1, f1, q1⟩ := r1.get g1
        obtain ⟨u2, f2, q2⟩ := r2.get g2
        have z1 : us.toArray[j] = u1 := by
          have : us[j]? = some us[j] := List.getElem?_eq_getElem (by simpa using h1)
          rw [this] at f1
          simpa using f1
        have z2 : zs.toArray[j] = u2 := by
          have : zs[j]? = some zs[j] := List.getElem?_eq_getElem (by simpa using h2)
          rw [this] at f2
          simpa using f2
        rw [z1, z2]
        have qq := e1 j _ _ (List.getElem?_eq_getElem m1) (List.getElem?_eq_getElem m2)
        rcases sameOr_or qq with ⟨a, za, zb, zc⟩ | qq
        · rw [za] at k1'
          rw [zb] at k2'
          obtain ⟨a1, w1, rfl⟩ := k1'
          obtain ⟨a2, w2, rfl⟩ := k2'
          rw [w1] at w2
          cases w2
          cases q1
          cases q2
          rw [zc]
          exact EqAt.same _
        · exact (ih A.in1 hu1 _ _ _ _ _ _ _ k1' k2' q1 q2 qq).2.2
      · rw [e2, k1.len, k2.len, r1.length, r2.length]
        simp
    intro u v x y xv yv b k1 k2 rx ry q
    have k1' := k1
    have k2' := k2
    have q' := q
    unfold Ev.eqTop at q
    split at q
    case _ => cases q; cases k1; cases k2; cases rx; cases ry; exact ⟨.none_none, .none_none, .same _⟩
    case _ a b' => cases q; cases k1; cases k2; cases rx; cases ry; exact ⟨.bool_bool _ _, .bool_bool _ _, .bool_bool _ _⟩
    case _ a b' => cases q; cases k1; cases k2; cases rx; obtain ⟨t, rfl⟩ := ry; exact ⟨.bool_int _ _ _, .bool_int _ _ _, .bool_int _ _ _⟩
    case _ a b' => cases q; cases k1; cases k2; obtain ⟨t, rfl⟩ := rx; cases ry; exact ⟨.int_bool _ _ _, .int_bool _ _ _, .int_bool _ _ _⟩
    case _ a b' => cases q; cases k1; cases k2; obtain ⟨t, rfl⟩ := rx; obtain ⟨t', rfl⟩ := ry; exact ⟨.int_int _ _ _ _, .int_int _ _ _ _, .int_int _ _ _ _⟩
    case _ a b' =>
      cases q; cases k1; cases k2; obtain ⟨t, rfl⟩ := rx; obtain ⟨t', rfl⟩ := ry
      rw [← mkS_beq]
      exact ⟨.str_str _ _ _ _, .str_str _ _ _ _, .str_str _ _ _ _⟩
    case _ => cases q; cases k1; cases k2; cases rx; cases ry; exact ⟨.none_bool _, .none_bool _, .none_bool _⟩
    case _ => cases q; cases k1; cases k2; cases rx; obtain ⟨t, rfl⟩ := ry; exact ⟨.none_int _ _, .none_int _ _, .none_int _ _⟩
    case _ => cases q; cases k1; cases k2; cases rx; obtain ⟨t, rfl⟩ := ry; exact ⟨.none_str _ _, .none_str _ _, .none_str _ _⟩
    case _ => cases q; cases k1; cases k2; cases rx; cases ry; exact ⟨.bool_none _, .bool_none _, .bool_none _⟩
    case _ => cases q; cases k1; cases k2; obtain ⟨t, rfl⟩ := rx; cases ry; exact ⟨.int_none _ _, .int_none _ _, .int_none _ _⟩
    case _ => cases q; cases k1; cases k2; obtain ⟨t, rfl⟩ := rx; cases ry; exact ⟨.str_none _ _, .str_none _ _, .str_none _ _⟩
    case _ => cases q; cases k1; cases k2; cases rx; obtain ⟨t, rfl⟩ := ry; exact ⟨.bool_str _ _ _, .bool_str _ _ _, .bool_str _ _ _⟩
    case _ => cases q; cases k1; cases k2; obtain ⟨t, rfl⟩ := rx; obtain ⟨t', rfl⟩ := ry; exact ⟨.int_str _ _ _ _, .int_str _ _ _ _, .int_str _ _ _ _⟩
    case _ => cases q; cases k1; cases k2; obtain ⟨t, rfl⟩ := rx; cases ry; exact ⟨.str_bool _ _ _, .str_bool _ _ _, .str_bool _ _ _⟩
    case _ => cases q; cases k1; cases k2; obtain ⟨t, rfl⟩ := rx; obtain ⟨t', rfl⟩ := ry; exact ⟨.str_int _ _ _ _, .str_int _ _ _ _, .str_int _ _ _ _⟩
    case _ xs ys =>
      obtain ⟨a, vs, rfl, t1, k1⟩ := k1
      obtain ⟨a', ws, rfl, t2, k2⟩ := k2
      obtain ⟨c, e1, e2⟩ := Option.map_eq_some_iff.mp q
      obtain ⟨us, r1, p1, _⟩ := I.tuple (by rw [hK]; exact t1.sq)
      obtain ⟨zs, r2, p2, _⟩ := I.tuple (by rw [hK]; exact t2.sq)
      obtain ⟨e, f1, f2⟩ := all k1 k2 r1 r2 e1
      have eb : b = ((List.range (min us.toArray.size zs.toArray.size)).all e && us.toArray.size == zs.toArray.size) := by
        rw [← e2, f2, k1.len, k2.len, r1.length, r2.length]
        simp
      cases rx
      cases ry
      have c1 : RcAt A s (.ref a) (.ref a') b := by rw [eb]; exact RcAt.tuples p1 p2 hu0 f1
      refine ⟨c1, ?_, ?_⟩
      · rw [eb]; exact RcNeAt.tuples p1 p2 hu0 f1
      · by_cases z : a = a'
        · subst z
          have := eq_self hK I R _ _ _ _ _ k1' k2' q'
          subst this
          exact EqAt.same _
        · exact EqAt.of_refs z c1
    case _ => cases q; obtain ⟨a, vs, rfl, t1, k1⟩ := k1; cases k2; obtain ⟨us, r1, p1, _⟩ := I.tuple (by rw [hK]; exact t1.sq); cases rx; cases ry; exact ⟨.tuple_none p1 hu0, .tuple_none p1 hu0, .tuple_none p1 hu0⟩
    case _ => cases q; obtain ⟨a, vs, rfl, t1, k1⟩ := k1; cases k2; obtain ⟨us, r1, p1, _⟩ := I.tuple (by rw [hK]; exact t1.sq); cases rx; cases ry; exact ⟨.tuple_bool _ p1 hu0, .tuple_bool _ p1 hu0, .tuple_bool _ p1 hu0⟩
    case _ => cases q; obtain ⟨a, vs, rfl, t1, k1⟩ := k1; cases k2; obtain ⟨us, r1, p1, _⟩ := I.tuple (by rw [hK]; exact t1.sq); cases rx; obtain ⟨t, rfl⟩ := ry; exact ⟨.tuple_int _ _ p1 hu0, .tuple_int _ _ p1 hu0, .tuple_int _ _ p1 hu0⟩
    case _ => cases q; obtain ⟨a, vs, rfl, t1, k1⟩ := k1; cases k2; obtain ⟨us, r1, p1, _⟩ := I.tuple (by rw [hK]; exact t1.sq); cases rx; obtain ⟨t, rfl⟩ := ry; exact ⟨.tuple_str _ _ p1 hu0, .tuple_str _ _ p1 hu0, .tuple_str _ _ p1 hu0⟩
    case _ => cases q; obtain ⟨a, vs, rfl, t1, k2⟩ := k2; cases k1; obtain ⟨us, r1, p1, _⟩ := I.tuple (by rw [hK]; exact t1.sq); cases rx; cases ry; exact ⟨.none_tuple p1 hu0, .none_tuple p1 hu0, .none_tuple p1 hu0⟩
    case _ => cases q; obtain ⟨a, vs, rfl, t1, k2⟩ := k2; cases k1; obtain ⟨us, r1, p1, _⟩ := I.tuple (by rw [hK]; exact t1.sq); cases rx; cases ry; exact ⟨.bool_tuple _ p1 hu0, .bool_tuple _ p1 hu0, .bool_tuple _ p1 hu0⟩
    case _ => cases q; obtain ⟨a, vs, rfl, t1, k2⟩ := k2; cases k1; obtain ⟨us, r1, p1, _⟩ := I.tuple (by rw [hK]; exact t1.sq); obtain ⟨t, rfl⟩ := rx; cases ry; exact ⟨.int_tuple _ _ p1 hu0, .int_tuple _ _ p1 hu0, .int_tuple _ _ p1 hu0⟩
    case _ => cases q; obtain ⟨a, vs, rfl, t1, k2⟩ := k2; cases k1; obtain ⟨us, r1, p1, _⟩ := I.tuple (by rw [hK]; exact t1.sq); obtain ⟨t, rfl⟩ := rx; cases ry; exact ⟨.str_tuple _ _ p1 hu0, .str_tuple _ _ p1 hu0, .str_tuple _ _ p1 hu0⟩
    case _ m k =>
      split at q
      case _ xs ys e1 e2 =>
        obtain ⟨a, vs, rfl, t1, k1⟩ := R.lstL e1 k1
        obtain ⟨a', ws, rfl, t2, k2⟩ := R.lstL e2 k2
        obtain ⟨us, r1, p1, _⟩ := I.list (by rw [hK]; exact t1)
        obtain ⟨zs, r2, p2, _⟩ := I.list (by rw [hK]; exact t2)
        cases rx
        cases ry
        have fin : RcAt A s (.ref a) (.ref a') b → EqAt A s (.ref a) (.ref a') b := fun c1 => by
          by_cases z : a = a'
          · subst z
            have := eq_self hK I R _ _ _ _ _ k1' k2' q'
            subst this
            exact EqAt.same _
          · exact EqAt.of_refs z c1
        split at q
        case isTrue hl =>
          obtain ⟨e, f1, f2⟩ := all k1 k2 r1 r2 q
          have hs : us.toArray.size = zs.toArray.size := by
            have : us.length = zs.length := by rw [← r1.length, ← r2.length, ← k1.len, ← k2.len]; exact hl
            simpa using this
          have eb : b = (List.range us.toArray.size).all e := by rw [f2, ← hs, Nat.min_self]
          have c1 : RcAt A s (.ref a) (.ref a') b := by rw [eb]; exact RcAt.lists p1.isList p2.isList hs hu0 f1
          exact ⟨c1, by rw [eb]; exact RcNeAt.lists p1.isList p2.isList hs hu0 f1, fin c1⟩
        case isFalse hl =>
          cases q
          have hs : (us.toArray.size != zs.toArray.size) = true := by
            have : ¬ us.length = zs.length := by rw [← r1.length, ← r2.length, ← k1.len, ← k2.len]; exact hl
            simpa using this
          have c1 : RcAt A s (.ref a) (.ref a') false := RcAt.lists_lengths p1.isList p2.isList hs hu0
          exact ⟨c1, RcNeAt.lists_lengths p1.isList p2.isList hs hu0, fin c1⟩
      case _ => cases q
    case _ m xs =>
      obtain ⟨ys, e1, rfl⟩ := Option.map_eq_some_iff.mp q
      obtain ⟨a, vs, rfl, t1, _⟩ := R.lstL e1 k1
      obtain ⟨a', ws, rfl, t2, _⟩ := k2
      obtain ⟨_, _, p1, _⟩ := I.list (by rw [hK]; exact t1)
      obtain ⟨_, _, p2, _⟩ := I.tuple (by rw [hK]; exact t2.sq)
      cases rx; cases ry
      exact ⟨.list_tuple p1.isList p2 hu0, .list_tuple p1.isList p2 hu0, .list_tuple p1.isList p2 hu0⟩
    case _ xs m =>
      obtain ⟨ys, e1, rfl⟩ := Option.map_eq_some_iff.mp q
      obtain ⟨a, vs, rfl, t1, _⟩ := R.lstL e1 k2
      obtain ⟨a', ws, rfl, t2, _⟩ := k1
      obtain ⟨_, _, p1, _⟩ := I.list (by rw [hK]; exact t1)
      obtain ⟨_, _, p2, _⟩ := I.tuple (by rw [hK]; exact t2.sq)
      cases rx; cases ry
      exact ⟨.tuple_list p2 p1.isList hu0, .tuple_list p2 p1.isList hu0, .tuple_list p2 p1.isList hu0⟩
    case _ m =>
      obtain ⟨ys, e1, rfl⟩ := Option.map_eq_some_iff.mp q
      obtain ⟨a, vs, rfl, t1, _⟩ := R.lstL e1 k1
      obtain ⟨_, _, p1, _⟩ := I.list (by rw [hK]; exact t1)
      cases k2; cases rx; cases ry
      exact ⟨.list_none p1.isList hu0, .list_none p1.isList hu0, .list_none p1.isList hu0⟩
    case _ m =>
      obtain ⟨ys, e1, rfl⟩ := Option.map_eq_some_iff.mp q
      obtain ⟨a, vs, rfl, t1, _⟩ := R.lstL e1 k2
      obtain ⟨_, _, p1, _⟩ := I.list (by rw [hK]; exact t1)
      cases k1; cases rx; cases ry
      exact ⟨.none_list p1.isList hu0, .none_list p1.isList hu0, .none_list p1.isList hu0⟩
    case _ => cases q
end
end EvS
/-! EvD: comparisons, truth, subscripts by values. -/
namespace EvS
open PySem PySem.Spec PyProof.Rows L2
open Ev (U AO AH DK)
open SeqAt (EqAt RcAt RcNeAt)

def cop : Ev.COp → CmpOp
  | .eq => .Eq | .ne => .NotEq | .lt => .Lt | .le => .LtE | .gt => .Gt | .ge => .GtE | .inn => .In | .nin => .NotIn | .is => .Is | .isnot => .IsNot
section
variable {X : Cx} {G : Sig} {xa : Xa} {r : List Addr} {h : AH} {H : Hp} {pins : List (Addr × Obj)} {σ : L2.St} {s : Shared}
theorem flat_rel {u : U} {v : V} (k : RU G xa r H u v) (f : Ev.flatU u = true) : flatV v = true := by
  cases u with
  | non => cases k; rfl
  | bl b => cases k; rfl
  | int b => cases k; rfl
  | str b => cases k; rfl
  | tup _ => cases f
  | ref _ => cases f
  | exc _ _ => cases f
  | fn _ => cases f
theorem flat_eq {u w : U} {v y : V} (k : RU G xa r H u v) (k' : RU G xa r H w y) (f : Ev.flatU u = true) (f' : Ev.flatU w = true) : eqV v y = Ev.eqFlat u w := by
  cases u with
  | tup _ => cases f
  | ref _ => cases f
  | exc _ _ => cases f
  | fn _ => cases f
  | non =>
    cases k
    cases w with
    | tup _ => cases f'
    | ref _ => cases f'
    | exc _ _ => cases f'
    | fn _ => cases f'
    | non => cases k'; rfl
    | bl b => cases k'; rfl
    | int b => cases k'; rfl
    | str b => cases k'; rfl
  | bl b =>
    cases k
    cases w with
    | tup _ => cases f'
    | ref _ => cases f'
    | exc _ _ => cases f'
    | fn _ => cases f'
    | non => cases k'; rfl
    | bl b => cases k'; rfl
    | int b => cases k'; rfl
    | str b => cases k'; rfl
  | int b =>
    cases k
    cases w with
    | tup _ => cases f'
    | ref _ => cases f'
    | exc _ _ => cases f'
    | fn _ => cases f'
    | non => cases k'; rfl
    | bl b => cases k'; rfl
    | int b => cases k'; rfl
    | str b => cases k'; rfl
  | str b =>
    cases k
    cases w with
    | tup _ => cases f'
    | ref _ => cases f'
    | exc _ _ => cases f'
    | fn _ => cases f'
    | non => cases k'; rfl
    | bl b => cases k'; rfl
    | int b => cases k'; rfl
    | str c => cases k'; exact mkS_beq b c
theorem flat_all : ∀ {us : List U} {vs : List V}, RUs G xa r H us vs → us.all Ev.flatU = true → vs.all flatV = true
  | [], _, k, _ => by rw [k.inv0]; rfl
  | u :: us, _, k, f => by
    obtain ⟨v, vs, rfl, k1, k2⟩ := k.inv
    simp only [List.all_cons, Bool.and_eq_true] at f ⊢
    exact ⟨flat_rel k1 f.1, flat_all k2 f.2⟩
theorem flat_any {u : U} {y : V} (ku : RU G xa r H u y) (fu : Ev.flatU u = true) : ∀ {us : List U} {vs : List V}, RUs G xa r H us vs → us.all Ev.flatU = true → inV y vs = us.any fun x => Ev.eqFlat x u
  | [], _, k, _ => by rw [k.inv0]; rfl
  | w :: us, _, k, f => by
    obtain ⟨v, vs, rfl, k1, k2⟩ := k.inv
    simp only [List.all_cons, Bool.and_eq_true] at f
    have ih := flat_any ku fu k2 f.2
    unfold inV at ih ⊢
    rw [List.any_cons, List.any_cons, ih, flat_eq k1 ku f.1 fu]
theorem data_none (hK : X.K = G.K) (I : Inv X pins σ H s) (R : RS G xa r h H) {A : Around} (hu : A.units < cLine) {u : U} {v : V} {w : Value} (k : RU G xa r H u v) (d : Ev.dataU h u = true) (rv : RelV v w) : EqAt A s w .none (decide (w = Value.none)) ∧ decide (w = Value.none) = Ev.isNon u := by
  cases u with
  | non => cases k; cases rv; exact ⟨.same _, by simp [Ev.isNon]⟩
  | bl b => cases k; cases rv; exact ⟨.bool_none _, by simp [Ev.isNon]⟩
  | int b => cases k; obtain ⟨t, rfl⟩ := rv; exact ⟨.int_none _ _, by simp [Ev.isNon]⟩
  | str b => cases k; obtain ⟨t, rfl⟩ := rv; exact ⟨.str_none _ _, by simp [Ev.isNon]⟩
  | tup xs =>
    obtain ⟨a, vs, rfl, t1, k⟩ := k
    obtain ⟨us, r1, p1, _⟩ := I.tuple (by rw [hK]; exact t1.sq)
    cases rv
    exact ⟨by simpa using EqAt.tuple_none p1 hu, by simp [Ev.isNon]⟩
  | ref n =>
    obtain ⟨xs, e⟩ := Option.isSome_iff_exists.mp (show (Ev.lstAt h n).isSome = true from d)
    obtain ⟨a, vs, rfl, t1, _⟩ := R.lstL e k
    obtain ⟨us, r1, p1, _⟩ := I.list (by rw [hK]; exact t1)
    cases rv
    exact ⟨by simpa using EqAt.list_none p1.isList hu, by simp [Ev.isNon]⟩
  | exc _ _ => cases d
  | fn _ => cases d
theorem none_any (hK : X.K = G.K) (I : Inv X pins σ H s) (R : RS G xa r h H) {A : Around} (hu : A.units < cLine) : ∀ {us : List U} {vs : List V} {ws : List Value}, RUs G xa r H us vs → us.all (Ev.dataU h) = true → Vals vs ws →
    (∀ y ∈ ws, EqAt A s y .none (decide (y = Value.none))) ∧ ws.any (fun y => decide (y = Value.none)) = us.any Ev.isNon
  | [], _, _, k, _, rv => by
    have := k.inv0
    subst this
    cases rv
    exact ⟨fun y hy => (nomatch hy), rfl⟩
  | u :: us, _, _, k, f, rv => by
    obtain ⟨v, vs, rfl, k1, k2⟩ := k.inv
    simp only [List.all_cons, Bool.and_eq_true] at f
    cases rv with
    | cons r1 r2 =>
      obtain ⟨a1, a2⟩ := none_any hK I R hu k2 f.2 r2
      obtain ⟨b1, b2⟩ := data_none hK I R hu k1 f.1 r1
      refine ⟨fun y hy => ?_, ?_⟩
      · rcases List.mem_cons.mp hy with rfl | hy
        · exact b1
        · exact a1 y hy
      · rw [List.any_cons, List.any_cons, a2, b2]
theorem RKv.len {kvs : List (DK × U)} {ks : List (Key × V)} (k : RKv G xa r H kvs ks) : kvs.length = ks.length := Paired.length k
theorem RKv.val {kvs : List (DK × U)} {ks : List (Key × V)} (k : RKv G xa r H kvs ks) (d : DK) : (∃ u v, Ev.valD kvs d = some u ∧ valV ks (mkK d) = some v ∧ RU G xa r H u v) ∨ (Ev.valD kvs d = none ∧ valV ks (mkK d) = none) := by
  unfold RKv at k
  induction k with
  | nil => exact .inr ⟨rfl, rfl⟩
  | @cons p q ps qs hpq _ ih =>
    by_cases e : p.1 = d
    · refine .inl ⟨p.2, q.2, ?_, ?_, hpq.2⟩
      · simp [Ev.valD, List.find?_cons, e]
      · exact valV_pos (by rw [hpq.1, e])
    · have e2 : ¬ q.1 = mkK d := fun z => e (mkK_inj (hpq.1.symm.trans z))
      have f1 : Ev.valD (p :: ps) d = Ev.valD ps d := by simp [Ev.valD, List.find?_cons, e]
      have f2 : valV (q :: qs) (mkK d) = valV qs (mkK d) := valV_neg e2
      rw [f1, f2]
      exact ih
theorem key_rel {u : U} {v : V} {d : DK} (e : Ev.keyOf u = some d) (k : RU G xa r H u v) : v = kV (mkK d) := by
  cases u with
  | int i => cases e; exact k
  | str i => cases e; exact k
  | _ => cases e
theorem op_cmp (hK : X.K = G.K) (hu : X.A.units + 64 < cLine) (op : Ev.COp) (W : WK) : OpR X (compareOp (cop op)) (rB G xa (fun u v h => (Ev.ofO (Ev.evCmp op u v h) h).bind fun k h => .ok (.bl k) h) W) := by
  intro pins s σ H x y v u Q I rx ry ⟨r, h, a, b, R, ka, kb, P⟩
  dsimp only at P
  have fin : ∀ {k : Bool}, Ev.evCmp op a b h = some k → Q (.bl k) H := fun {k} e => by
    rw [e] at P
    exact Post.okV (u := .bl k) P R rfl
  have some_of : ∃ k, Ev.evCmp op a b h = some k := by
    cases z : Ev.evCmp op a b h with
    | some k => exact ⟨k, rfl⟩
    | none => rw [z] at P; exact P.elim
  obtain ⟨k, ek⟩ := some_of
  have q : Q (.bl k) H := fin ek
  have hu12 : X.A.units + 12 < cLine := by omega
  cases op with
  | eq => exact (eq_run hK I R 12 X.A hu12 a b x y v u k ka kb rx ry ek).1 _ _ _ _ ⟨.bl k, H, I, rfl, q⟩
  | ne =>
    obtain ⟨c, e1, rfl⟩ := Option.map_eq_some_iff.mp ek
    exact (eq_run hK I R 12 X.A hu12 a b x y v u c ka kb rx ry e1).2.1 _ _ _ _ ⟨.bl (!c), H, I, rfl, q⟩
  | lt =>
    unfold Ev.evCmp at ek
    dsimp only at ek
    split at ek
    case _ i j => cases ek; exact op_lt pins s σ H x y v u Q I rx ry ⟨i, j, ka, kb, q⟩
    case _ => cases ek
  | le =>
    unfold Ev.evCmp at ek
    dsimp only at ek
    split at ek
    case _ i j => cases ek; exact op_le pins s σ H x y v u Q I rx ry ⟨i, j, ka, kb, q⟩
    case _ => cases ek
  | gt =>
    unfold Ev.evCmp at ek
    dsimp only at ek
    split at ek
    case _ i j => cases ek; exact op_gt pins s σ H x y v u Q I rx ry ⟨i, j, ka, kb, q⟩
    case _ => cases ek
  | ge =>
    unfold Ev.evCmp at ek
    dsimp only at ek
    split at ek
    case _ i j => cases ek; exact op_ge pins s σ H x y v u Q I rx ry ⟨i, j, ka, kb, q⟩
    case _ => cases ek
  | is =>
    unfold Ev.evCmp at ek
    dsimp only at ek
    split at ek
    case _ =>
      cases ek
      refine op_isN pins s σ H x y v u Q I rx ry ⟨kb, ?_⟩
      have : decide (x = V.non) = Ev.isNon a := by
        cases a with
        | non => cases ka; rfl
        | bl _ => cases ka; rfl
        | int _ => cases ka; rfl
        | str _ => cases ka; rfl
        | tup _ => obtain ⟨_, _, rfl, _⟩ := ka; rfl
        | ref _ => obtain ⟨_, _, rfl⟩ := ka; rfl
        | exc _ _ => obtain ⟨_, _, _, _, _, rfl, _⟩ := ka; rfl
        | fn _ => cases ka
      rw [this]; exact q
    case _ => cases ek
  | isnot =>
    unfold Ev.evCmp at ek
    dsimp only at ek
    split at ek
    case _ =>
      cases ek
      refine op_notN pins s σ H x y v u Q I rx ry ⟨kb, ?_⟩
      have : decide (x = V.non) = Ev.isNon a := by
        cases a with
        | non => cases ka; rfl
        | bl _ => cases ka; rfl
        | int _ => cases ka; rfl
        | str _ => cases ka; rfl
        | tup _ => obtain ⟨_, _, rfl, _⟩ := ka; rfl
        | ref _ => obtain ⟨_, _, rfl⟩ := ka; rfl
        | exc _ _ => obtain ⟨_, _, _, _, _, rfl, _⟩ := ka; rfl
        | fn _ => cases ka
      rw [this]; exact q
    case _ => cases ek
  | inn =>
    have ek' : Ev.inU h a b = some k := ek
    unfold Ev.inU at ek'
    split at ek'
    case _ z =>
      split at ek'
      case _ c =>
        cases ek'
        refine op_in_sign pins s σ H x y v u Q I rx ry ⟨c, mkS z, ka, kb, ?_⟩
        rw [mkS_list]; exact q
      case _ => cases ek'
    case _ xs =>
      obtain ⟨p, vs, rfl, t1, k1⟩ := kb
      unfold Ev.anyEq at ek'
      split at ek'
      case isTrue c =>
        cases ek'
        rw [Bool.and_eq_true] at c
        refine op_in_seq pins s σ H _ _ v u Q I rx ry ⟨p, vs, rfl, .inr (by rw [hK]; exact t1.sq), flat_rel ka c.1, flat_all k1 c.2, ?_⟩
        rw [if_neg Bool.false_ne_true, flat_any ka c.1 k1 c.2]
        exact q
      case isFalse =>
        split at ek'
        case isTrue c =>
          cases ek'
          rw [Bool.and_eq_true] at c
          have : a = .non := by
            cases a with
            | non => rfl
            | _ => exact absurd c.1 Bool.false_ne_true
          subst this
          cases ka
          cases rx
          cases ry
          obtain ⟨us, r1, p1, _⟩ := I.tuple (by rw [hK]; exact t1.sq)
          obtain ⟨a1, a2⟩ := none_any hK I R (A := X.A.in1) (by show X.A.units + 1 < cLine; omega) k1 c.2 r1
          refine SeqAt.in_tupleAt (fun y => decide (y = Value.none)) p1 (fun y hy => a1 y (by simpa using hy)) ⟨.bl (xs.any Ev.isNon), H, I, ?_, q⟩
          rw [← a2]
          simp [L2.RelV]
        case isFalse => cases ek'
    case _ n =>
      split at ek'
      case _ xs e1 =>
        obtain ⟨p, vs, rfl, t1, k1⟩ := R.lstL e1 kb
        unfold Ev.anyEq at ek'
        split at ek'
        case isTrue c =>
          cases ek'
          rw [Bool.and_eq_true] at c
          refine op_in_seq pins s σ H _ _ v u Q I rx ry ⟨p, vs, rfl, .inl (by rw [hK]; exact t1), flat_rel ka c.1, flat_all k1 c.2, ?_⟩
          rw [if_neg Bool.false_ne_true, flat_any ka c.1 k1 c.2]
          exact q
        case isFalse =>
          split at ek'
          case isTrue c =>
            cases ek'
            rw [Bool.and_eq_true] at c
            have : a = .non := by
              cases a with
              | non => rfl
              | _ => exact absurd c.1 Bool.false_ne_true
            subst this
            cases ka
            cases rx
            cases ry
            obtain ⟨us, r1, p1, _⟩ := I.list (by rw [hK]; exact t1)
            obtain ⟨a1, a2⟩ := none_any hK I R (A := X.A.in1) (by show X.A.units + 1 < cLine; omega) k1 c.2 r1
            refine SeqAt.in_listAt (fun y => decide (y = Value.none)) p1.isList (fun y hy => a1 y (by simpa using hy)) ⟨.bl (xs.any Ev.isNon), H, I, ?_, q⟩
            rw [← a2]
            simp [L2.RelV]
          case isFalse => cases ek'
      case _ =>
        split at ek'
        case _ kvs d e1 e2 =>
          cases ek'
          obtain ⟨p, vs, rfl, _, t1, k1⟩ := R.dicR e1 kb
          cases ry
          have ex := key_rel e2 ka
          subst ex
          refine d_in (by omega) I (.inl ⟨vs, mkK d, t1, rfl, rfl⟩) rx fun s3 I3 => ⟨.bl (valV vs (mkK d)).isSome, H, I3, rfl, ?_⟩
          rcases k1.val d with ⟨w, z, f1, f2, _⟩ | ⟨f1, f2⟩
          · rw [f2]; rw [f1] at q; exact q
          · rw [f2]; rw [f1] at q; exact q
        case _ => cases ek'
    case _ => cases ek'
  | nin =>
    obtain ⟨k', ek', rfl⟩ := Option.map_eq_some_iff.mp (show (Ev.inU h a b).map (!·) = some k from ek)
    unfold Ev.inU at ek'
    split at ek'
    case _ z =>
      split at ek'
      case _ c =>
        cases ek'
        refine op_notIn_sign pins s σ H x y v u Q I rx ry ⟨c, mkS z, ka, kb, ?_⟩
        rw [mkS_list]; exact q
      case _ => cases ek'
    case _ xs =>
      obtain ⟨p, vs, rfl, t1, k1⟩ := kb
      unfold Ev.anyEq at ek'
      split at ek'
      case isTrue c =>
        cases ek'
        rw [Bool.and_eq_true] at c
        refine op_notIn_seq pins s σ H _ _ v u Q I rx ry ⟨p, vs, rfl, .inr (by rw [hK]; exact t1.sq), flat_rel ka c.1, flat_all k1 c.2, ?_⟩
        rw [if_pos rfl, flat_any ka c.1 k1 c.2]
        exact q
      case isFalse =>
        split at ek'
        case isTrue c =>
          cases ek'
          rw [Bool.and_eq_true] at c
          have : a = .non := by
            cases a with
            | non => rfl
            | _ => exact absurd c.1 Bool.false_ne_true
          subst this
          cases ka
          cases rx
          cases ry
          obtain ⟨us, r1, p1, _⟩ := I.tuple (by rw [hK]; exact t1.sq)
          obtain ⟨a1, a2⟩ := none_any hK I R (A := X.A.in1) (by show X.A.units + 1 < cLine; omega) k1 c.2 r1
          refine SeqAt.notIn_tupleAt (fun y => decide (y = Value.none)) p1 (fun y hy => a1 y (by simpa using hy)) ⟨.bl (!xs.any Ev.isNon), H, I, ?_, q⟩
          rw [← a2]
          simp [L2.RelV]
        case isFalse => cases ek'
    case _ n =>
      split at ek'
      case _ xs e1 =>
        obtain ⟨p, vs, rfl, t1, k1⟩ := R.lstL e1 kb
        unfold Ev.anyEq at ek'
        split at ek'
        case isTrue c =>
          cases ek'
          rw [Bool.and_eq_true] at c
          refine op_notIn_seq pins s σ H _ _ v u Q I rx ry ⟨p, vs, rfl, .inl (by rw [hK]; exact t1), flat_rel ka c.1, flat_all k1 c.2, ?_⟩
          rw [if_pos rfl, flat_any ka c.1 k1 c.2]
          exact q
        case isFalse =>
          split at ek'
          case isTrue c =>
            cases ek'
            rw [Bool.and_eq_true] at c
            have : a = .non := by
              cases a with
              | non => rfl
              | _ => exact absurd c.1 Bool.false_ne_true
            subst this
            cases ka
            cases rx
            cases ry
            obtain ⟨us, r1, p1, _⟩ := I.list (by rw [hK]; exact t1)
            obtain ⟨a1, a2⟩ := none_any hK I R (A := X.A.in1) (by show X.A.units + 1 < cLine; omega) k1 c.2 r1
            refine SeqAt.notIn_listAt (fun y => decide (y = Value.none)) p1.isList (fun y hy => a1 y (by simpa using hy)) ⟨.bl (!xs.any Ev.isNon), H, I, ?_, q⟩
            rw [← a2]
            simp [L2.RelV]
          case isFalse => cases ek'
      case _ =>
        split at ek'
        case _ kvs d e1 e2 =>
          cases ek'
          obtain ⟨p, vs, rfl, _, t1, k1⟩ := R.dicR e1 kb
          cases ry
          have ex := key_rel e2 ka
          subst ex
          refine d_notIn (by omega) I (.inl ⟨vs, mkK d, t1, rfl, rfl⟩) rx fun s3 I3 => ⟨.bl (!(valV vs (mkK d)).isSome), H, I3, rfl, ?_⟩
          rcases k1.val d with ⟨w, z, f1, f2, _⟩ | ⟨f1, f2⟩
          · rw [f2]; rw [f1] at q; exact q
          · rw [f2]; rw [f1] at q; exact q
        case _ => cases ek'
    case _ => cases ek'
end
end EvS
/-! EvE: truth, subscripts, slices by values. -/
namespace EvS
open PySem PySem.Spec PyProof.Rows L2
open Ev (U AO AH DK)

section
variable {X : Cx} {G : Sig} {xa : Xa} {r : List Addr} {h : AH} {H : Hp} {pins : List (Addr × Obj)} {σ : L2.St} {s : Shared}
theorem emp_len {α β : Type} {xs : List α} {ys : List β} (e : xs.length = ys.length) : xs.isEmpty = ys.isEmpty := by
  cases xs <;> cases ys <;> simp at e ⊢
theorem tru_rel (hK : X.K = G.K) (R : RS G xa r h H) {u : U} {x : V} {k : Bool} (e : Ev.tru h u = some k) (ku : RU G xa r H u x) : TruV X.K x H k := by
  cases u with
  | non => cases ku; cases e; rfl
  | bl b => cases ku; cases e; rfl
  | int b => cases ku; cases e; rfl
  | str b =>
    cases ku
    unfold Ev.tru at e
    dsimp only at e
    split at e
    case isTrue c =>
      cases e
      refine ⟨by rw [mkS_len]; exact lim_ok c, ?_⟩
      rw [mkS_len]
      cases b <;> simp
      omega
    case isFalse => cases e
  | tup xs =>
    obtain ⟨a, vs, rfl, t1, k1⟩ := ku
    cases e
    exact .inr (.inl ⟨vs, by rw [hK]; exact t1.sq, by rw [emp_len k1.len]⟩)
  | ref n =>
    unfold Ev.tru at e
    dsimp only at e
    split at e
    case _ xs e1 =>
      cases e
      obtain ⟨a, vs, rfl, t1, k1⟩ := R.lstL e1 ku
      exact .inl ⟨vs, by rw [hK]; exact t1, by rw [emp_len k1.len]⟩
    case _ =>
      split at e
      case _ kvs e1 =>
        cases e
        obtain ⟨a, vs, rfl, _, t1, k1⟩ := R.dicWr e1 ku
        exact .inr (.inr ⟨vs, t1, by rw [emp_len k1.len]⟩)
      case _ => cases e
  | exc _ _ => cases e
  | fn _ => cases e

theorem atI_at {xs : List U} {vs : List V} {i : Int} {u : U} (k : RUs G xa r H xs vs) (e : (Ev.ixN xs.length i).bind (fun j => xs[j]?) = some u) : ∃ v, atI vs i = some v ∧ RU G xa r H u v := by
  obtain ⟨j, e1, e2⟩ := Option.bind_eq_some_iff.mp e
  obtain ⟨v, f1, f2⟩ := k.get e2
  refine ⟨v, ?_, f2⟩
  unfold atI
  have : L2.ixN vs.length i = some j := by rw [← k.len]; exact e1
  rw [this]
  exact f1
theorem op_ix (hK : X.K = G.K) (W : WK) : IxR X (fun x y H Q => ∃ (r : List Addr) (h : AH) (u v : U), RS G xa r h H ∧ RU G xa r H u x ∧ RU G xa r H v y ∧ (∀ n, u = .ref n → (Ev.lstAt h n).isSome = true) ∧ Post G xa (rlU G xa) (Ev.ofO (Ev.evIx u v h) h) r H Q W) := by
  intro value slice pins s σ H x y v u Q I rx ry ⟨r, h, a, b, R, ka, kb, nd, P⟩ hs
  have some_of : ∃ w, Ev.evIx a b h = some w := by
    cases z : Ev.evIx a b h with
    | some k => exact ⟨k, rfl⟩
    | none => rw [z] at P; exact P.elim
  obtain ⟨w, ew⟩ := some_of
  rw [ew] at P
  have q : ∀ {z : V}, RU G xa r H w z → Q z H := fun k => Post.okV (u := w) P R k
  unfold Ev.evIx at ew
  split at ew
  case _ xs i =>
    cases kb
    obtain ⟨p, vs, rfl, t1, k1⟩ := ka
    obtain ⟨z, f1, f2⟩ := atI_at k1 ew
    exact ix_tup value slice pins s σ H _ _ v u Q I rx ry ⟨p, vs, i, z, rfl, rfl, by rw [hK]; exact t1.sq, f1, q f2⟩ hs
  case _ zz i =>
    cases kb
    cases ka
    split at ew
    case isTrue c =>
      obtain ⟨cc, e1, rfl⟩ := Option.map_eq_some_iff.mp ew
      refine ix_str value slice pins s σ H _ _ v u Q I rx ry ⟨mkS zz, i, cc, rfl, rfl, by rw [mkS_len]; exact lim_ok c, ?_, q rfl⟩ hs
      rw [mkS_list]
      exact e1
    case isFalse => cases ew
  case _ b' n =>
    obtain ⟨xs, e1⟩ := Option.isSome_iff_exists.mp (nd n rfl)
    rw [e1] at ew
    dsimp only at ew
    split at ew
    case _ i =>
      cases kb
      obtain ⟨p, vs, rfl, t1, k1⟩ := R.lstL e1 ka
      obtain ⟨z, f1, f2⟩ := atI_at k1 ew
      exact ix_list value slice pins s σ H _ _ v u Q I rx ry ⟨p, vs, i, z, rfl, rfl, by rw [hK]; exact t1, f1, q f2⟩ hs
    case _ => cases ew
  case _ => cases ew
theorem RUs.cut {xs : List U} {vs : List V} (lo hi : Option Int) (k : RUs G xa r H xs vs) : RUs G xa r H (Ev.cut xs lo hi) (cutV vs lo hi) := by
  have e1 : ∀ n d o, Ev.sIx n d o = HT.sIx n d o := fun n d o => by cases o <;> rfl
  unfold Ev.cut cutV
  rw [e1, e1, k.len]
  exact (k.drop _).take _
theorem op_sl (hK : X.K = G.K) (W : WK) : SlR X (fun x lo hi H Q => ∃ (r : List Addr) (h : AH) (u : U), RS G xa r h H ∧ RU G xa r H u x ∧ Post G xa (rlU G xa) (Ev.evSl u lo hi h) r H Q W) := by
  intro pins s σ H x v vl vu lo hi sl Q I rx hs pl pu ⟨r, h, a, R, ka, P⟩
  unfold Ev.evSl at P
  split at P
  case _ xs =>
    obtain ⟨p, vs, rfl, t1, k1⟩ := ka
    refine sl_tupA pins s σ H _ v vl vu lo hi sl Q I rx hs pl pu ⟨p, vs, rfl, by rw [hK]; exact t1.sq, fun ⟨w1, w2⟩ => ?_, fun _ p' hp => P.newT R (k1.cut lo hi) hp⟩
    refine P.okV R ⟨p, vs, rfl, t1, ?_⟩
    have := k1.cut lo hi
    unfold cutV at this
    rw [w1, w2] at this
    simpa using this
  case _ z =>
    cases ka
    split at P
    case isTrue c =>
      refine sl_str pins s σ H _ v vl vu lo hi sl Q I rx hs pl pu ⟨mkS z, rfl, by rw [mkS_len]; exact lim_ok c, ?_⟩
      have : cutS (mkS z) lo hi = mkS (Ev.cut z lo hi) := by
        have e1 : ∀ n d o, Ev.sIx n d o = HT.sIx n d o := fun n d o => by cases o <;> rfl
        unfold cutS Ev.cut
        rw [mkS_list, mkS_len, e1, e1]
        rfl
      rw [this]
      exact P.okV R rfl
    case isFalse => exact P.elim
  case _ n =>
    split at P
    case _ xs e1 =>
      obtain ⟨p, vs, rfl, t1, k1⟩ := R.lstL e1 ka
      exact sl_list pins s σ H _ v vl vu lo hi sl Q I rx hs pl pu ⟨p, vs, rfl, by rw [hK]; exact t1, fun p' hp => Post.newL P R (k1.cut lo hi) hp⟩
    case _ => exact P.elim
  case _ => exact P.elim
end
end EvS
/-! EvF: built-in functions by values; isinstance. -/
namespace EvS
open PySem PySem.Spec PyProof.Rows L2
open Ev (U AO AH DK)

section
variable {X : Cx} {G : Sig} {xa : Xa} {r : List Addr} {h : AH} {H : Hp} {pins : List (Addr × Obj)} {σ : L2.St} {s : Shared}
theorem ints_rel : ∀ {us : List U} {vs : List V} {xs : List Int}, Ev.intsU us = some xs → RUs G xa r H us vs → vs = xs.map V.int
  | [], _, _, e, k => by cases e; rw [k.inv0]; rfl
  | .int i :: us, _, _, e, k => by
    obtain ⟨v, vs, rfl, k1, k2⟩ := k.inv
    unfold Ev.intsU at e
    obtain ⟨ys, e1, rfl⟩ := Option.map_eq_some_iff.mp e
    cases k1
    rw [ints_rel e1 k2]; rfl
  | .non :: _, _, _, e, _ => by cases e
  | .bl _ :: _, _, _, e, _ => by cases e
  | .str _ :: _, _, _, e, _ => by cases e
  | .tup _ :: _, _, _, e, _ => by cases e
  | .ref _ :: _, _, _, e, _ => by cases e
  | .exc _ _ :: _, _, _, e, _ => by cases e
  | .fn _ :: _, _, _, e, _ => by cases e
theorem bools_rel : ∀ {us : List U} {vs : List V} {xs : List Bool}, Ev.bools us = some xs → RUs G xa r H us vs → vs = xs.map V.bl
  | [], _, _, e, k => by cases e; rw [k.inv0]; rfl
  | .bl i :: us, _, _, e, k => by
    obtain ⟨v, vs, rfl, k1, k2⟩ := k.inv
    unfold Ev.bools at e
    obtain ⟨ys, e1, rfl⟩ := Option.map_eq_some_iff.mp e
    cases k1
    rw [bools_rel e1 k2]; rfl
  | .non :: _, _, _, e, _ => by cases e
  | .int _ :: _, _, _, e, _ => by cases e
  | .str _ :: _, _, _, e, _ => by cases e
  | .tup _ :: _, _, _, e, _ => by cases e
  | .ref _ :: _, _, _, e, _ => by cases e
  | .exc _ _ :: _, _, _, e, _ => by cases e
  | .fn _ :: _, _, _, e, _ => by cases e
theorem strs_rel : ∀ {us : List U} {vs : List V} {xs : List (List Nat)}, Ev.strsU us = some xs → RUs G xa r H us vs → vs = (xs.map mkS).map V.str
  | [], _, _, e, k => by cases e; rw [k.inv0]; rfl
  | .str i :: us, _, _, e, k => by
    obtain ⟨v, vs, rfl, k1, k2⟩ := k.inv
    unfold Ev.strsU at e
    obtain ⟨ys, e1, rfl⟩ := Option.map_eq_some_iff.mp e
    cases k1
    rw [strs_rel e1 k2]; rfl
  | .non :: _, _, _, e, _ => by cases e
  | .int _ :: _, _, _, e, _ => by cases e
  | .bl _ :: _, _, _, e, _ => by cases e
  | .tup _ :: _, _, _, e, _ => by cases e
  | .ref _ :: _, _, _, e, _ => by cases e
  | .exc _ _ :: _, _, _, e, _ => by cases e
  | .fn _ :: _, _, _, e, _ => by cases e
theorem RS.lstO {u : U} {v : V} {xs : List U} (R : RS G xa r h H) (e : Ev.lstOf h u = some xs) (q : RU G xa r H u v) : ∃ a vs, v = .ref a ∧ SqL G.K H a vs ∧ RUs G xa r H xs vs := by
  cases u with
  | ref n => exact R.lstL e q
  | _ => cases e
theorem one_rel {u : U} {vs : List V} (k : RUs G xa r H [u] vs) : ∃ v, vs = [v] ∧ RU G xa r H u v := by
  obtain ⟨v, ws, rfl, k1, k2⟩ := k.inv
  exact ⟨v, by rw [k2.inv0], k1⟩
theorem two_rel {u w : U} {vs : List V} (k : RUs G xa r H [u, w] vs) : ∃ v x, vs = [v, x] ∧ RU G xa r H u v ∧ RU G xa r H w x := by
  obtain ⟨v, ws, rfl, k1, k2⟩ := k.inv
  obtain ⟨x, rfl, k3⟩ := one_rel k2
  exact ⟨v, x, rfl, k1, k3⟩
theorem sInt_ok (i : Int) : ((toString i : String) : Str) = mkS (Ev.sInt i) := by
  show Str.ofString (toString i) = _
  rw [Str.ofString_eq_toList]
  rfl
theorem maxI_ok : ∀ (l : List Int) (x : Int), Ev.maxI x l ∈ x :: l ∧ ∀ y ∈ x :: l, y ≤ Ev.maxI x l
  | [], x => by simp [Ev.maxI]
  | z :: l, x => by
    have ih := maxI_ok l (if z > x then z else x)
    unfold Ev.maxI
    by_cases c : z > x
    · rw [if_pos c] at ih ⊢
      refine ⟨?_, fun y hy => ?_⟩
      · exact List.mem_cons_of_mem _ ih.1
      · rcases List.mem_cons.mp hy with rfl | hy
        · have := ih.2 z List.mem_cons_self; omega
        · exact ih.2 y hy
    · rw [if_neg c] at ih ⊢
      refine ⟨?_, fun y hy => ?_⟩
      · rcases List.mem_cons.mp ih.1 with e | e
        · rw [e]; exact List.mem_cons_self
        · exact List.mem_cons_of_mem _ (List.mem_cons_of_mem _ e)
      · rcases List.mem_cons.mp hy with rfl | hy
        · exact ih.2 y List.mem_cons_self
        · rcases List.mem_cons.mp hy with rfl | hy
          · have := ih.2 x List.mem_cons_self; omega
          · exact ih.2 y (List.mem_cons_of_mem _ hy)
theorem minI_ok : ∀ (l : List Int) (x : Int), Ev.minI x l ∈ x :: l ∧ ∀ y ∈ x :: l, Ev.minI x l ≤ y
  | [], x => by simp [Ev.minI]
  | z :: l, x => by
    have ih := minI_ok l (if z < x then z else x)
    unfold Ev.minI
    by_cases c : z < x
    · rw [if_pos c] at ih ⊢
      refine ⟨?_, fun y hy => ?_⟩
      · exact List.mem_cons_of_mem _ ih.1
      · rcases List.mem_cons.mp hy with rfl | hy
        · have := ih.2 z List.mem_cons_self; omega
        · exact ih.2 y hy
    · rw [if_neg c] at ih ⊢
      refine ⟨?_, fun y hy => ?_⟩
      · rcases List.mem_cons.mp ih.1 with e | e
        · rw [e]; exact List.mem_cons_self
        · exact List.mem_cons_of_mem _ (List.mem_cons_of_mem _ e)
      · rcases List.mem_cons.mp hy with rfl | hy
        · exact ih.2 y List.mem_cons_self
        · rcases List.mem_cons.mp hy with rfl | hy
          · have := ih.2 x List.mem_cons_self; omega
          · exact ih.2 y (List.mem_cons_of_mem _ hy)
/-! sorted intsU: one list alone is a rising arrangement -/
theorem ins_perm {α : Type} (le : α → α → Bool) (x : α) : ∀ l : List α, (Ev.insSort le x l).Perm (x :: l)
  | [] => List.Perm.refl _
  | y :: l => by
    unfold Ev.insSort
    split
    · exact List.Perm.refl _
    · exact ((ins_perm le x l).cons y).trans (List.Perm.swap x y l)
theorem sort_perm {α : Type} (le : α → α → Bool) : ∀ l : List α, (Ev.sortBy le l).Perm l
  | [] => List.Perm.refl _
  | x :: l => by
    unfold Ev.sortBy
    exact (ins_perm le x _).trans ((sort_perm le l).cons x)
theorem ins_up (x : Int) : ∀ l : List Int, l.Pairwise (· ≤ ·) → (Ev.insSort (fun a b => decide (a ≤ b)) x l).Pairwise (· ≤ ·)
  | [], _ => by simp [Ev.insSort]
  | y :: l, p => by
    unfold Ev.insSort
    split
    case isTrue c =>
      have c' : x ≤ y := by simpa using c
      refine List.Pairwise.cons (fun z hz => ?_) p
      rcases List.mem_cons.mp hz with rfl | hz
      · exact c'
      · exact Int.le_trans c' (List.rel_of_pairwise_cons p hz)
    case isFalse c =>
      have c' : y ≤ x := by
        have : ¬ x ≤ y := by simpa using c
        omega
      refine List.Pairwise.cons (fun z hz => ?_) (ins_up x l (List.Pairwise.of_cons p))
      rcases List.mem_cons.mp ((ins_perm _ x l).mem_iff.mp hz) with rfl | hz
      · exact c'
      · exact List.rel_of_pairwise_cons p hz
theorem sort_up : ∀ l : List Int, (Ev.sortBy (fun a b => decide (a ≤ b)) l).Pairwise (· ≤ ·)
  | [] => List.Pairwise.nil
  | x :: l => by
    unfold Ev.sortBy
    exact ins_up x _ (sort_up l)
theorem sorted_one {a b : List Int} (p : a.Perm b) (ha : a.Pairwise (· ≤ ·)) (hb : b.Pairwise (· ≤ ·)) : a = b :=
  p.eq_of_pairwise (le := fun x y => decide (x ≤ y)) (by intro x y _ _ h1 h2; simp at h1 h2; omega) (by simpa using ha) (by simpa using hb)

def rC (G : Sig) (xa : Xa) (f : List U → AH → Ev.R U) (W : WK) : List V → Hp → VK → Prop := fun vs H Q => ∃ (r : List Addr) (h : AH) (us : List U), RS G xa r h H ∧ RUs G xa r H us vs ∧ Post G xa (rlU G xa) (f us h) r H Q W
def biV : Ev.BI → Option Value
  | .len => some (.builtin "len") | .max => some (.builtin "max") | .min => some (.builtin "min") | .maxl => some (.builtin "max") | .minl => some (.builtin "min")
  | .sum => some (.builtin "sum") | .all => some (.builtin "all") | .any => some (.builtin "any") | .str => some (.type "str") | .int => some (.type "int") | .abs => some (.builtin "abs")
  | .list => some (.type "list") | .tuple => some (.type "tuple") | .divmod => some (.builtin "divmod") | .sorted => some (.builtin "sorted")
  | _ => none
theorem pNat_dig : ∀ {cs : List Nat} {acc n : Nat}, Ev.pNat cs acc = some n → PySem.NumText.AllDigits cs ∧ cs.foldl (fun acc c => acc * 10 + (c - 48)) acc = n
  | [], acc, n, h => ⟨(by intro c hc; cases hc), by simpa [Ev.pNat] using h⟩
  | c :: r, acc, n, h => by
    unfold Ev.pNat Ev.digVal at h
    split at h
    case _ d e =>
      split at e
      case isTrue k =>
        cases e
        obtain ⟨h1, h2⟩ := pNat_dig h
        refine ⟨fun x hx => ?_, ?_⟩
        · rcases List.mem_cons.mp hx with rfl | q
          · exact k
          · exact h1 x q
        · rw [List.foldl_cons, Nat.mul_comm acc 10]; exact h2
      case isFalse => cases e
    case _ => cases h
theorem pInt_text {z : List Nat} {i : Int} (h : Ev.pInt z = some i) : PySem.intText? (mkS z) = some i ∧ (mkS z).length ≤ 640 := by
  unfold Ev.pInt at h
  split at h
  case isTrue => cases h
  case isFalse c =>
    obtain ⟨n, h1, h2⟩ := Option.map_eq_some_iff.mp h
    obtain ⟨h3, h4⟩ := pNat_dig h1
    have hl : (mkS z).length ≤ 640 := by rw [mkS_len]; omega
    have ez : (mkS z).cps.toList = z := by simp [mkS]
    have := PySem.intText_digits (x := mkS z) (by rw [ez]; exact h3) (by rw [ez]; exact fun q => c (.inl q)) (by omega)
    rw [ez] at this
    rw [this, ← h2]
    exact ⟨by congr 1; exact congrArg Int.ofNat h4, hl⟩
theorem call_bi (hK : X.K = G.K) (hc : X.calm = true) (W : WK) (b : Ev.BI) (u : Value) (hb : biV b = some u) : CallR X u (rC G xa (Ev.evBI b) W) := by
  intro pins s σ H xs vs Q I rv ⟨r, h, us, R, k, P⟩
  cases b
  case len =>
    cases hb
    simp only [Ev.evBI] at P
    split at P
    case _ z =>
      split at P
      case isTrue c =>
        obtain ⟨v, rfl, k1⟩ := one_rel k
        cases k1
        refine call_len pins s σ H _ vs Q I rv ⟨_, z.length, rfl, ⟨by rw [mkS_len]; exact lim_ok c, (mkS_len z).symm⟩, P.okV R rfl⟩
      case isFalse => exact P.elim
    case _ zs =>
      obtain ⟨v, rfl, a, ws, rfl, t1, k1⟩ := one_rel k
      rw [k1.len] at P
      exact call_len pins s σ H _ vs Q I rv ⟨_, _, rfl, .inr ⟨ws, by rw [hK]; exact t1.sq, rfl⟩, P.okV R rfl⟩
    case _ n =>
      obtain ⟨v, rfl, k1⟩ := one_rel k
      split at P
      case _ zs e1 =>
        obtain ⟨a, ws, rfl, t1, k2⟩ := R.lstL e1 k1
        rw [k2.len] at P
        exact call_len pins s σ H _ vs Q I rv ⟨_, _, rfl, .inl ⟨ws, by rw [hK]; exact t1, rfl⟩, P.okV R rfl⟩
      case _ =>
        split at P
        case _ kvs e1 =>
          obtain ⟨a, ws, rfl, _, t1, k2⟩ := R.dicWr e1 k1
          rw [k2.len] at P
          exact call_lenD pins s σ H _ vs Q I rv ⟨a, ws, rfl, t1, P.okV R rfl⟩
        case _ => exact P.elim
    case _ => exact P.elim
  case max =>
    cases hb
    simp only [Ev.evBI] at P
    split at P
    case _ i j =>
      obtain ⟨v, w, rfl, k1, k2⟩ := two_rel k
      cases k1; cases k2
      exact call_max2 hc pins s σ H _ vs Q I rv ⟨i, j, rfl, P.okV R rfl⟩
    case _ => exact P.elim
  case min =>
    cases hb
    simp only [Ev.evBI] at P
    split at P
    case _ i j =>
      obtain ⟨v, w, rfl, k1, k2⟩ := two_rel k
      cases k1; cases k2
      exact call_min2 hc pins s σ H _ vs Q I rv ⟨i, j, rfl, P.okV R rfl⟩
    case _ => exact P.elim
  case abs =>
    cases hb
    simp only [Ev.evBI] at P
    split at P
    case _ i =>
      obtain ⟨v, rfl, k1⟩ := one_rel k
      cases k1
      exact call_abs pins s σ H _ vs Q I rv ⟨i, rfl, P.okV R rfl⟩
    case _ => exact P.elim
  case str =>
    cases hb
    simp only [Ev.evBI] at P
    split at P
    case _ i =>
      split at P
      case isTrue c =>
        obtain ⟨v, rfl, k1⟩ := one_rel k
        cases k1
        refine call_str_int pins s σ H _ vs Q I rv ⟨i, rfl, c, ?_⟩
        rw [sInt_ok]
        exact P.okV R rfl
      case isFalse => exact P.elim
    case _ z =>
      obtain ⟨v, rfl, k1⟩ := one_rel k
      cases k1
      exact SkE.call_str_str pins s σ H _ vs Q I rv ⟨mkS z, rfl, P.okV R rfl⟩
    case _ => exact P.elim
  case sum =>
    cases hb
    simp only [Ev.evBI] at P
    split at P
    case _ u =>
      split at P
      case _ xs e =>
        obtain ⟨ys, e1, e2⟩ := Option.bind_eq_some_iff.mp e
        obtain ⟨v, rfl, k1⟩ := one_rel k
        obtain ⟨a, ws, rfl, t1, k2⟩ := R.lstO e1 k1
        rw [ints_rel e2 k2] at t1
        exact cr_sum hc pins s σ H _ vs Q I rv ⟨a, xs, rfl, by rw [hK]; exact t1, P.okV R rfl⟩
      case _ => exact P.elim
    case _ => exact P.elim
  case all =>
    cases hb
    simp only [Ev.evBI] at P
    split at P
    case _ u =>
      split at P
      case _ xs e =>
        obtain ⟨ys, e1, e2⟩ := Option.bind_eq_some_iff.mp e
        obtain ⟨v, rfl, k1⟩ := one_rel k
        obtain ⟨a, ws, rfl, t1, k2⟩ := R.lstO e1 k1
        rw [bools_rel e2 k2] at t1
        exact cr_all hc pins s σ H _ vs Q I rv ⟨a, xs, rfl, by rw [hK]; exact t1, P.okV R rfl⟩
      case _ => exact P.elim
    case _ => exact P.elim
  case any =>
    cases hb
    simp only [Ev.evBI] at P
    split at P
    case _ u =>
      split at P
      case _ xs e =>
        obtain ⟨ys, e1, e2⟩ := Option.bind_eq_some_iff.mp e
        obtain ⟨v, rfl, k1⟩ := one_rel k
        obtain ⟨a, ws, rfl, t1, k2⟩ := R.lstO e1 k1
        rw [bools_rel e2 k2] at t1
        exact cr_any hc pins s σ H _ vs Q I rv ⟨a, xs, rfl, by rw [hK]; exact t1, P.okV R rfl⟩
      case _ => exact P.elim
    case _ => exact P.elim
  case maxl =>
    cases hb
    simp only [Ev.evBI] at P
    split at P
    case _ u =>
      split at P
      case _ x xs e =>
        obtain ⟨ys, e1, e2⟩ := Option.bind_eq_some_iff.mp e
        obtain ⟨v, rfl, k1⟩ := one_rel k
        obtain ⟨a, ws, rfl, t1, k2⟩ := R.lstO e1 k1
        rw [ints_rel e2 k2] at t1
        refine cr_max hc pins s σ H _ vs Q I rv ⟨a, x :: xs, rfl, by rw [hK]; exact t1, by simp, fun m hm hle => ?_⟩
        obtain ⟨m1, m2⟩ := maxI_ok xs x
        have : m = Ev.maxI x xs := Int.le_antisymm (m2 m hm) (hle _ m1)
        rw [this]
        exact P.okV R rfl
      case _ => exact P.elim
    case _ => exact P.elim
  case minl =>
    cases hb
    simp only [Ev.evBI] at P
    split at P
    case _ u =>
      split at P
      case _ x xs e =>
        obtain ⟨ys, e1, e2⟩ := Option.bind_eq_some_iff.mp e
        obtain ⟨v, rfl, k1⟩ := one_rel k
        obtain ⟨a, ws, rfl, t1, k2⟩ := R.lstO e1 k1
        rw [ints_rel e2 k2] at t1
        refine cr_min hc pins s σ H _ vs Q I rv ⟨a, x :: xs, rfl, by rw [hK]; exact t1, by simp, fun m hm hle => ?_⟩
        obtain ⟨m1, m2⟩ := minI_ok xs x
        have : m = Ev.minI x xs := Int.le_antisymm (hle _ m1) (m2 m hm)
        rw [this]
        exact P.okV R rfl
      case _ => exact P.elim
    case _ => exact P.elim
  case list =>
    cases hb
    simp only [Ev.evBI] at P
    split at P
    case _ zs =>
      obtain ⟨v, rfl, a, ws, rfl, t1, k1⟩ := one_rel k
      exact call_list_of pins s σ H _ vs Q I rv ⟨a, ws, rfl, .inr (by rw [hK]; exact t1.sq), fun l hl => P.newL R k1 hl⟩
    case _ n =>
      obtain ⟨v, rfl, k1⟩ := one_rel k
      split at P
      case _ zs e1 =>
        obtain ⟨a, ws, rfl, t1, k2⟩ := R.lstL e1 k1
        exact call_list_of pins s σ H _ vs Q I rv ⟨a, ws, rfl, .inl (by rw [hK]; exact t1), fun l hl => P.newL R k2 hl⟩
      case _ =>
        split at P
        case _ kvs e1 =>
          obtain ⟨a, ws, rfl, _, t1, k2⟩ := R.dicR e1 k1
          refine call_listD hc pins s σ H _ vs Q I rv ⟨a, ws, rfl, t1, fun l hl => P.newL R ?_ hl⟩
          clear P e1 t1
          unfold RKv at k2
          induction k2 with
          | nil => exact RUs.nil
          | @cons p q ps qs hpq _ ih =>
            refine RUs.cons (u := Ev.keyU p.1) ?_ ih
            show RU _ _ _ _ _ (kV q.1)
            rw [hpq.1]
            cases p.1 <;> rfl
        case _ => exact P.elim
    case _ => exact P.elim
  case tuple =>
    cases hb
    simp only [Ev.evBI] at P
    split at P
    case _ zs =>
      obtain ⟨v, rfl, a, ws, rfl, t1, k1⟩ := one_rel k
      exact call_tuple_of pins s σ H _ vs Q I rv ⟨a, ws, rfl, .inr ⟨by rw [hK]; exact t1.sq, P.okV R ⟨a, ws, rfl, t1, k1⟩⟩⟩
    case _ n =>
      obtain ⟨v, rfl, k1⟩ := one_rel k
      split at P
      case _ zs e1 =>
        obtain ⟨a, ws, rfl, t1, k2⟩ := R.lstL e1 k1
        exact call_tuple_of pins s σ H _ vs Q I rv ⟨a, ws, rfl, .inl ⟨by rw [hK]; exact t1, fun l hl => P.newT R k2 hl⟩⟩
      case _ => exact P.elim
    case _ => exact P.elim
  case divmod =>
    cases hb
    simp only [Ev.evBI] at P
    split at P
    case _ i j =>
      split at P
      case isTrue c =>
        obtain ⟨v, w, rfl, k1, k2⟩ := two_rel k
        cases k1; cases k2
        exact call_divmod pins s σ H _ vs Q I rv ⟨i, j, rfl, c, fun p hp => P.newT R (RUs.cons rfl (RUs.cons rfl RUs.nil)) hp⟩
      case isFalse => exact P.elim
    case _ => exact P.elim
  case sorted =>
    cases hb
    simp only [Ev.evBI] at P
    split at P
    case _ u =>
      split at P
      case _ xs e =>
        obtain ⟨ys, e1, e2⟩ := Option.bind_eq_some_iff.mp e
        obtain ⟨v, rfl, k1⟩ := one_rel k
        obtain ⟨a, ws, rfl, t1, k2⟩ := R.lstO e1 k1
        rw [ints_rel e2 k2] at t1
        refine cr_sortedI pins s σ H _ vs Q I rv ⟨a, xs, rfl, by rw [hK]; exact t1, fun ns' p hp hup hn => ?_⟩
        have : ns' = Ev.sortBy (fun a b => decide (a ≤ b)) xs := sorted_one (hp.trans (sort_perm _ xs).symm) hup (sort_up xs)
        rw [this]
        refine P.newL R ?_ hn
        clear P
        induction Ev.sortBy (fun a b => decide (a ≤ b)) xs with
        | nil => exact RUs.nil
        | cons z l ih => exact RUs.cons rfl ih
      case _ => exact P.elim
    case _ => exact P.elim
  case int =>
    cases hb
    simp only [Ev.evBI] at P
    split at P
    case _ i =>
      obtain ⟨v, rfl, k1⟩ := one_rel k
      cases k1
      exact call_int1 pins s σ H _ vs Q I rv (.inl ⟨i, rfl, P.okV R rfl⟩)
    case _ i =>
      obtain ⟨v, rfl, k1⟩ := one_rel k
      cases k1
      exact call_int1 pins s σ H _ vs Q I rv (.inr ⟨i, rfl, P.okV R rfl⟩)
    case _ z =>
      obtain ⟨v, rfl, k1⟩ := one_rel k
      cases k1
      cases e : Ev.pInt z with
      | none => rw [e] at P; exact P.elim
      | some i =>
        rw [e] at P
        obtain ⟨e1, e2⟩ := pInt_text e
        exact call_int_str pins s σ H _ vs Q I rv ⟨mkS z, i, rfl, e1, e2, P.okV R rfl⟩
    case _ => exact P.elim
  all_goals cases hb
/-! ### isinstance -/
def tyName : Ev.Ty → String
  | .int => "int" | .bool => "bool" | .str => "str" | .list => "list" | .tuple => "tuple" | .dict => "dict" | .cls _ => ""
def kdName : Ev.Kd → String
  | .none => "NoneType" | .bool => "bool" | .int => "int" | .str => "str" | .tuple => "tuple" | .list => "list" | .dict => "dict" | .ins _ => ""
def tyVal (G : Sig) : Ev.Ty → Value
  | .cls c => .ref (G.ca c)
  | t => .type (tyName t)
def tyVv (G : Sig) : Ev.Ty → V
  | .cls c => .ref (G.ca c)
  | t => .ty (tyName t)
def kdVal (G : Sig) : Ev.Kd → Value
  | .ins c => .ref (G.ca c)
  | k => .type (kdName k)
/-- what own classes must have for isinstance -/
structure IsiG (G : Sig) : Prop where
  ins : ∀ c d b, Ev.kdTy G.Γ.isb (.ins c) (.cls d) = some b → Cls G.K (G.ca c) ∧ PySem.W.findIn G.K (.ref (G.ca c)) "__class__" = some (some (.builtin "object.__class__")) ∧ PySem.W.mroIn G.K (G.ca c) (.type "object") = some true ∧
    PySem.W.kitOne G.K (.ref (G.ca c)) (.ref (G.ca d)) = some b
  sp : PySem.W.specialIn G.K (.builtin "object.__class__") "__get__" = some (some (.builtin "getset_descriptor.__get__"))
  tk : PySem.W.takesIn G.K (.builtin "object.__class__") = some true
theorem kit_rel (S : IsiG G) {k : Ev.Kd} {t : Ev.Ty} {b : Bool} (e : Ev.kdTy G.Γ.isb k t = some b) : PySem.W.kitOne G.K (kdVal G k) (tyVal G t) = some b := by
  cases k with
  | ins c =>
    cases t with
    | cls d => exact (S.ins c d b e).2.2.2
    | _ => cases e
  | none => cases t <;> first | (cases e; exact kit_ty (by decide +kernel)) | cases e
  | bool => cases t <;> first | (cases e; exact kit_ty (by decide +kernel)) | cases e
  | int => cases t <;> first | (cases e; exact kit_ty (by decide +kernel)) | cases e
  | str => cases t <;> first | (cases e; exact kit_ty (by decide +kernel)) | cases e
  | tuple => cases t <;> first | (cases e; exact kit_ty (by decide +kernel)) | cases e
  | list => cases t <;> first | (cases e; exact kit_ty (by decide +kernel)) | cases e
  | dict => cases t <;> first | (cases e; exact kit_ty (by decide +kernel)) | cases e
theorem kd_rel (S : IsiG G) (R : RS G xa r h H) {u : U} {x : V} {k : Ev.Kd} (e : Ev.kdOf h u = some k) (ku : RU G xa r H u x) (hi : ∀ c, k = .ins c → ∃ d b, Ev.kdTy G.Γ.isb (.ins c) (.cls d) = some b) : TyX G.K H x (kdVal G k) := by
  cases u with
  | non => cases ku; cases e; exact .base .non
  | bl b => cases ku; cases e; exact .base (.bl b)
  | int b => cases ku; cases e; exact .base (.int b)
  | str b => cases ku; cases e; exact .base (.str _)
  | tup xs =>
    obtain ⟨a, vs, rfl, t1, k1⟩ := ku
    cases e
    rcases t1 with t1 | ⟨o, its, n, l, c, _⟩
    · exact .base (.tup t1)
    · exact .kTuple l c
  | ref n =>
    obtain ⟨a, h1, rfl⟩ := ku
    unfold Ev.kdOf at e
    dsimp only at e
    split at e
    case _ xs z =>
      cases e
      obtain ⟨u, e1, vs, rfl, _⟩ := R.ob n _ a z h1
      exact .base (.lst e1)
    case _ xs z =>
      cases e
      obtain ⟨u, e1, ob, w, rfl, vs, rfl, _⟩ := R.ob n _ a z h1
      exact .base (.frz e1)
    case _ xs z =>
      cases e
      obtain ⟨u, e1, vs, rfl, _⟩ := R.ob n _ a z h1
      exact .base (.dK e1)
    case _ xs z =>
      cases e
      obtain ⟨u, e1, ob, w, rfl, vs, rfl, _⟩ := R.ob n _ a z h1
      exact .fDict e1
    case _ c fs z =>
      cases e
      obtain ⟨u, e1, dx, gs, rfl, _⟩ := R.ob n _ a z h1
      obtain ⟨d, b, hb⟩ := hi c rfl
      obtain ⟨f1, f2, f3, _⟩ := S.ins c d b hb
      exact .base (.ins e1 f1 f2 S.sp S.tk f3)
    case _ => cases e
  | exc _ _ => cases e
  | fn _ => cases e
theorem ty_cls (t : Ev.Ty) : ClsV (tyVv G t) (tyVal G t) := by
  cases t with
  | cls c => exact .own _
  | _ => exact .ty _
theorem any_rel (S : IsiG G) {k : Ev.Kd} : ∀ {ts : List Ev.Ty} {u : U} {b : Bool}, Ev.kdOf h u = some k → Ev.isAny G.Γ.isb h u ts = some b → PySem.W.kitAny G.K (kdVal G k) (ts.map (tyVal G)) = some b
  | [], _, _, _, e => by cases e; rfl
  | t :: ts, u, b, ek, e => by
    unfold Ev.isAny at e
    split at e
    case _ a c e1 e2 =>
      cases e
      have e1' : Ev.kdTy G.Γ.isb k t = some a := by
        unfold Ev.isTy at e1
        rw [ek] at e1
        exact e1
      refine kitAny_cons (kit_rel S e1') (fun z => ?_) (fun z => ?_)
      · subst z
        simpa using any_rel S ek e2
      · subst z; rfl
    case _ => cases e
end
end EvS
/-! EvG: calls where what is raised is wished for at the caller's slots; small facts of the syntax. -/
namespace EvS
open PySem PySem.Spec PyProof.Rows L2
open Ev (U AO AH DK)

/-! ### the syntax -/
def noStar : Expr → Bool
  | .Starred _ _ => false
  | _ => true
theorem star_cons {e : Expr} {es : List Expr} {env : Env} (h : noStar e = true) : starEach (e :: es) env = (false, eval e env) :: starEach es env := by
  cases e <;> first | rfl | cases h
theorem star_none {pos : Pos} {env : Env} : ∀ {es : List Expr}, es.all noStar = true → (backTo pos (starEach es env)).any (·.1) = false
  | [], _ => rfl
  | e :: es, h => by
    simp only [List.all_cons, Bool.and_eq_true] at h
    rw [star_cons h.1]
    show (false || (backTo pos (starEach es env)).any (·.1)) = false
    rw [star_none h.2]; rfl
def noSuper : Expr → Bool
  | .Call (.Name x _) [] [] _ => x != "super"
  | _ => true
theorem base_of {e : Expr} {f : Str} {env : Env} {wh : Sem Value} (h : noSuper e = true) : attributeBase e f env wh = wh := by
  unfold attributeBase
  split
  · rename_i x p pos
    have hx : (x != "super") = true := h
    simp [hx]
  · rfl
def noSlice : Expr → Bool
  | .Slice _ _ _ _ => false
  | _ => true
theorem plain_ix {b : Expr} (h : noSlice b = true) : PlainIx b := by
  intro o i
  cases b <;> first | rfl | cases h
theorem plain_sl {b : Expr} (h : noSlice b = true) : NoSl b := by
  intro o i
  cases b <;> first | rfl | cases h
def plainT : Expr → Bool
  | .UnaryOp .Not _ _ => false
  | .BoolOp _ _ _ => false
  | .IfExp _ _ _ _ => false
  | .Compare _ _ _ _ => false
  | _ => true
theorem plain_test {e : Expr} {env : Env} (h : plainT e = true) : ∀ wh, isTrue e env wh = (do let v ← wh; standAt e.pos; holding [v] (truthy v)) := by
  intro wh
  cases e with
  | UnaryOp op a p => cases op <;> first | rfl | cases h
  | _ => first | rfl | cases h
def noComp : Expr → Bool
  | .ListComp _ _ _ _ => false
  | .SetComp _ _ _ _ => false
  | .DictComp _ _ _ _ _ => false
  | _ => true
theorem swap_no {e : Expr} {t : Option Expr} {l : Nat} {env : Env} (h : noComp e = true) : swapsWith e t l env = pure false := by
  cases e <;> first | rfl | cases h
def noSet : Expr → Bool
  | .Set _ _ _ => false
  | _ => true
theorem fold_no {e : Expr} {env : Env} (h : noSet e = true) : ∀ x, foldedSetIterable e env x = pure x := by
  intro x
  cases e <;> first | rfl | cases h

/-! ### calls -/
section
variable {X : Cx} {CX : CXT} {k : Nat} {f C : Addr} {fd : FuncData} {ps : List Str} {sp : Sp} {E : L2.St → XK} {x m : Str} {p pos apos : Pos} {o : Expr} {es : List Expr} {ta : TE} {t : TA}
/-- f(..), with or without arguments -/
theorem g_call (F : FnOk X.prog X.w X.K X.mg X.base CX k f fd ps sp) (hr : Room k X.A) (hg : Gl X x) (hm : X.mg x = some (.ref f)) (hk : PySem.W.keepIn X.K (.ref f) = true) (hb : Binds X.K fd ps [])
    (hx : ∀ σ, PassesAt CX X σ (E σ)) (ha : PA X es t) (h0 : es = [] → ∀ σ H Q, t σ H Q → Q [] H) (hd : (x == ("__debug__" : Str)) = false) (hs : es.all noStar = true) :
    PE X (.Call (.Name x p) es [] pos) (fun σ H Q => t σ H fun vs H1 => sp vs H1 Q (E σ)) := by
  cases es with
  | nil =>
    refine ⟨fun pins s σ H Q I q => ?_⟩
    refine wpAny_Call_Name_kw (ld_glob I hg hm ?_ hd)
    exact PySem.W.callWith_K0 I.kIn hk (run_fnS F hr hb (hx σ) I .nil (h0 rfl σ H _ q))
  | cons e es =>
    have hs1 : noStar e = true := by simp at hs; exact hs.1
    have hs2 : es.all noStar = true := by simp at hs; simpa using hs.2
    exact pe_callS F hr hg hm hk hb hx ha hd (star_cons hs1) (star_none hs2)
/-- o.m(..): the callee first, then the arguments -/
def plF (o : Expr) (env : Env) : Sem Bool := do return (← importBound o env).getD true
theorem form_of {es : List Expr} {env : Env} {pos : Pos} (hs : es.all noStar = true) (hl : es.length < 30) : methodCallForm (es.length + ([] : List Keyword).length) (backTo pos (starEach es env)) (backToKw pos (keywordEach [] env)) = true := by
  have h1 : (backTo pos (starEach es env)).all (!·.1) = true := by
    have := star_none (pos := pos) (env := env) hs
    rw [List.all_eq_not_any_not]
    simpa using this
  unfold methodCallForm
  rw [h1]
  simp [backToKw, keywordEach, hl]
theorem meth_eval {es : List Expr} {env : Env} (hs : es.all noStar = true) (hl : es.length < 30) (hsu : noSuper o = true) (hline : (apos.endLine == pos.line) = true) :
    eval (.Call (.Attribute o m apos) es [] pos) env = (do
      let ov ← eval o env
      standAt apos.atName
      let (f, first) ← holding [ov] (getMethod ov m (plF o env))
      callWith pos f first (backTo pos (starEach es env)) (backToKw pos (keywordEach [] env))) := by
  show (do
    let ov ← attributeBase o m env (eval o env)
    standAt apos.atName
    methodCall o m apos pos env ov (es.length + ([] : List Keyword).length) (backTo pos (starEach es env)) (backToKw pos (keywordEach [] env))) = _
  rw [base_of hsu]
  unfold methodCall calleeOf methodCallPos
  rw [form_of hs hl, hline]
  rfl
theorem g_meth (he : PE X o ta) (c : Cls X.K C) (hm : Meth X.K C m f) (F : FnOk X.prog X.w X.K X.mg X.base CX k f fd ps sp) (hr : Room k X.A) (hb : Binds X.K fd ps []) (hx : ∀ σ, PassesAt CX X σ (E σ))
    (ha : PA X es t) (h0 : es = [] → ∀ σ H Q, t σ H Q → Q [] H) (hs : es.all noStar = true) (hl : es.length < 30) (hsu : noSuper o = true) (hline : (apos.endLine == pos.line) = true) :
    PE X (.Call (.Attribute o m apos) es [] pos) (fun σ H Q => ta σ H fun y H1 => ∃ a dx fs, y = .ref a ∧ H1 a = some (.ins C dx fs) ∧ fs.lookup m = none ∧ t σ H1 fun vs H2 => sp (y :: vs) H2 Q (E σ)) := by
  refine ⟨fun pins s σ H Q I q => ?_⟩
  refine PySem.W.methodCall_KW (pl := plF o X.env) (thn (he.run pins s σ H _ I q) fun u s1 z => ?_) (meth_eval hs hl hsu hline)
  obtain ⟨y, H1, I1, ry, a, dx, fs, ey, ea, nl, q1⟩ := z
  subst ey
  have eu : u = Value.ref a := ry
  subst eu
  refine getmeth_ok I1 ea c hm nl ?_
  cases es with
  | nil => exact PySem.W.callWith_K0 (first := [.ref a]) I1.kIn hm.kp (run_fnS (us := [.ref a]) (vs := [.ref a]) F hr hb (hx σ) I1 (.cons rfl .nil) (h0 rfl σ H1 _ q1))
  | cons e es =>
    have hs1 : noStar e = true := by simp at hs; exact hs.1
    have hs2 : es.all noStar = true := by simp at hs; simpa using hs.2
    refine PySem.W.callWith_K (first := [.ref a]) (h₀ := X.base) I.ok.mod.kin hm.kp (thn (ha.run pos pins s1 σ H1 _ I1 q1) fun us s2 z2 => ?_) (star_cons hs1) (star_none hs2)
    obtain ⟨vs, H2, I2, rv, q2⟩ := z2
    exact ⟨I2.kIn, run_fnS (us := .ref a :: us) (vs := .ref a :: vs) F hr hb (hx σ) I2 (.cons rfl rv) q2⟩
/-- C(..): a new instance, then its __init__ -/
theorem g_new {pins : List (Addr × Obj)} {σ : L2.St} {H : Hp} {s : Shared} {Q : VK} {us : List Value} {vs : List V} (M : Mk X.K C f) (F : FnOk X.prog X.w X.K X.mg X.base CX k f fd ps sp) (hr : Room (k + 1) X.A) (hb : Binds X.K fd ps [])
    (hx : PassesAt CX X σ (E σ)) (I : Inv X pins σ H s) (rv : Vals vs us)
    (q : ∀ y dx, H y = none → H dx = none → dx ≠ y → sp (.ref y :: vs) (upd (upd H dx (.own y)) y (.ins C dx [])) (fun v H2 => v = .non ∧ Q (.ref y) H2) (E σ)) :
    wpAny (model X.prog X.w) X.A (call (.ref C) us) (EP X pins σ Q) X.xe s := by
  let z := s.heap.objs.size
  have hq := q (z + 1) z (I.hok.fresh (Nat.le_succ _)) (I.hok.fresh (Nat.le_refl _)) (Nat.ne_of_lt (Nat.lt_succ_self _))
  have I2 := Inv.made (C := C) I
  have rv2 : Vals (V.ref (z + 1) :: vs) (Value.ref (z + 1) :: us) := .cons rfl rv
  have hl : (Value.ref (z + 1) :: us).length = ps.length := rv2.length.symm.trans (F.len _ _ _ _ hq)
  have b := hb _ (Value.ref (z + 1) :: us) I2.kIn (by rw [List.append_nil]; exact hl)
  rw [List.append_nil] at b
  refine wpAny_call (make_map (f := f) I.kIn M.makes M.init (beq_iff_eq.mp M.fn) (codeAny_mono (F.run _ X.stack _ _ ⟨Value.ref (z + 1) :: us, []⟩ (Value.ref (z + 1) :: us) _ _ (E σ) (hr.make C us [])
    (I2.env0.make C us []) b rv2 hq) fun rr s' hq' => ?_))
  cases rr with
  | error e => exact hx pins _ _ e s' I2 hq'
  | ok fl =>
    cases fl with
    | ret u =>
      obtain ⟨v, H', I3, rw3, ev, q3⟩ := I2.after hq'
      subst ev
      exact ⟨rw3, ⟨V.ref (z + 1), H', I3, rfl, q3⟩⟩
    | next => exact hq'.elim
    | brk => exact hq'.elim
    | cont => exact hq'.elim
theorem g_make (M : Mk X.K C f) (hkC : PySem.W.keepIn X.K (.ref C) = true) (F : FnOk X.prog X.w X.K X.mg X.base CX k f fd ps sp) (hr : Room (k + 1) X.A) (hg : Gl X x) (hm : X.mg x = some (.ref C)) (hb : Binds X.K fd ps [])
    (hx : ∀ σ, PassesAt CX X σ (E σ)) (ha : PA X es t) (h0 : es = [] → ∀ σ H Q, t σ H Q → Q [] H) (hd : (x == ("__debug__" : Str)) = false) (hs : es.all noStar = true) :
    PE X (.Call (.Name x p) es [] pos) (fun σ H Q => t σ H fun vs H1 => ∀ y dx, H1 y = none → H1 dx = none → dx ≠ y → sp (.ref y :: vs) (upd (upd H1 dx (.own y)) y (.ins C dx [])) (fun v H2 => v = .non ∧ Q (.ref y) H2) (E σ)) := by
  refine ⟨fun pins s σ H Q I q => ?_⟩
  refine wpAny_Call_Name_kw (ld_glob I hg hm ?_ hd)
  cases es with
  | nil => exact PySem.W.callWith_K0 I.kIn hkC (g_new (us := []) M F hr hb (hx σ) I .nil (h0 rfl σ H _ q))
  | cons e es =>
    have hs1 : noStar e = true := by simp at hs; exact hs.1
    have hs2 : es.all noStar = true := by simp at hs; simpa using hs.2
    refine PySem.W.callWith_K (h₀ := X.base) I.ok.mod.kin hkC (thn (ha.run pos pins s σ H _ I q) fun us s1 z => ?_) (star_cons hs1) (star_none hs2)
    obtain ⟨vs, H1, I1, rv, q1⟩ := z
    exact ⟨I1.kIn, g_new M F hr hb (hx σ) I1 rv q1⟩
end
end EvS
/-! EvH: the check of a reading against the syntax; what is known of the surroundings. -/
namespace EvS
open PySem PySem.Spec PyProof.Rows L2
open Ev (U AO AH DK)

def visB (sc : Scope) (x : Str) : Bool := match sc.names.lookup x with
  | some .local => true
  | some .cell => true
  | some .free => true
  | _ => false
def locB (sc : Scope) (x : Str) : Bool := match sc.names.lookup x with
  | some .local => true
  | _ => false
/-- local, also where a comprehension takes it -/
def lcB (sc : Scope) (x : Str) : Bool := match sc.names.lookup x with
  | some .local => true
  | some .cell => true
  | _ => false
def glbB (sc : Scope) (x : Str) : Bool := match sc.names.lookup x with
  | some .globalImplicit => true
  | _ => false
def nmB (x : Str) : Bool := x != "__debug__" && x != "__classdict__" && x != "__name__"
theorem visB_ok {sc : Scope} {x : Str} (h : visB sc x = true) : Vis sc x := by
  unfold visB at h
  unfold Vis
  split at h <;> first | exact .inl (by assumption) | exact .inr (.inl (by assumption)) | exact .inr (.inr (by assumption)) | cases h
theorem locB_ok {sc : Scope} {x : Str} (h : locB sc x = true) : sc.names.lookup x = some .local := by
  unfold locB at h
  split at h
  · assumption
  · cases h
theorem lcB_ok {sc : Scope} {x : Str} (h : lcB sc x = true) : Loc sc x := by
  unfold lcB at h
  split at h
  · exact .inl (by assumption)
  · exact .inr (by assumption)
  · cases h
theorem glbB_ok {sc : Scope} {x : Str} (h : glbB sc x = true) : sc.names.lookup x = some .globalImplicit := by
  unfold glbB at h
  split at h
  · assumption
  · cases h
theorem nmB_ok {x : Str} (h : nmB x = true) : (x == ("__debug__" : Str)) = false ∧ (x == ("__classdict__" : Str)) = false ∧ x ≠ "__name__" := by
  unfold nmB at h
  simp only [Bool.and_eq_true, bne_iff_ne, ne_eq] at h
  exact ⟨by simpa using h.1.1, by simpa using h.1.2, h.2⟩

def chC : U → Const → Bool
  | .non, .none => true
  | .bl a, .bool b => a == b
  | .int a, .int b => a == b
  | .str a, .str b => decide (b = mkS a)
  | _, _ => false
def chB : Ev.BOp → Operator → Bool
  | .add, .Add => true | .sub, .Sub => true | .mul, .Mult => true | .fdiv, .FloorDiv => true | .mod, .Mod => true | .pow, .Pow => true
  | _, _ => false
def stB : Ev.BOp → Bool
  | .step => true
  | _ => false
def chO : Ev.COp → CmpOp → Bool
  | .eq, .Eq => true | .ne, .NotEq => true | .lt, .Lt => true | .le, .LtE => true | .gt, .Gt => true | .ge, .GtE => true
  | .inn, .In => true | .nin, .NotIn => true | .is, .Is => true | .isnot, .IsNot => true
  | _, _ => false
def biN : Ev.BI → Str
  | .len => "len" | .max => "max" | .min => "min" | .maxl => "max" | .minl => "min" | .sum => "sum" | .all => "all" | .any => "any" | .str => "str" | .int => "int" | .abs => "abs"
  | .list => "list" | .tuple => "tuple" | .divmod => "divmod" | .sorted => "sorted"
  | .sortedk _ => "sorted" | .lenset => "len" | .tupvals => "tuple"
  | _ => ""
def tyB : Ev.Ty → Expr → Bool
  | .int, .Name x _ => decide (x = "int") | .bool, .Name x _ => decide (x = "bool") | .str, .Name x _ => decide (x = "str") | .list, .Name x _ => decide (x = "list")
  | .tuple, .Name x _ => decide (x = "tuple") | .dict, .Name x _ => decide (x = "dict")
  | _, _ => false
mutual
/-- a for's or a comprehension's target: names that stand in the block; cl: those that are taken further too -/
def chP (N : List Str) (cl : Bool) (sc : Scope) : Ev.P → Expr → Bool
  | .name i, .Name x _ => N[i]? == some x && (if cl then lcB sc x else locB sc x)
  | .tup ps, .Tuple es _ _ => chPs N cl sc ps es
  | _, _ => false
termination_by structural x => x
def chPs (N : List Str) (cl : Bool) (sc : Scope) : Ev.P → List Expr → Bool
  | .nil, [] => true
  | .cons a b, e :: es => noStar e && chP N cl sc a e && chPs N cl sc b es
  | _, _ => false
termination_by structural x => x
end
def slots : Ev.P → List Nat
  | .name i => [i]
  | .tup p => slots p
  | .nil => []
  | .cons a b => slots a ++ slots b
def isTupE : Expr → Bool
  | .Tuple _ _ _ => true
  | _ => false
/-- what stands apart -/
def spB : Ev.BI → Bool
  | .lenset => true | .tupvals => true | .sortedk _ => true
  | _ => false
/-- a def that hands back an item of what it is given -/
structure KTxt (K : PySem.W.Frag) (f : Addr) (j : Nat) : Prop where
  ex : ∃ (x nm qual : Str) (st : Stmt) (fd : FuncData) (kk : Nat) (p1 p2 p3 p4 : Pos), Fun K nm qual st f fd ∧ FnScope [x] [x] (defScope st) ∧ (defScope st).names.lookup x = some .local ∧ nmB x = true ∧
    defBody st = [.Return (some (.Subscript (.Name x p1) (.Constant (.int (j : Int)) kk p2) p3)) p4] ∧ Binds K fd [x] []
/-- is it a def that hands back the j-th item? -/
def keyD : Option Ev.Fn → Nat → Bool
  | some ⟨1, 1, .cons (.ret (.ix (.var 0) (.con (.int i)))) .nil⟩, j => decide (i = (j : Int))
  | _, _ => false
def chSp (b : Ev.BI) (ok : Bool) (sc : Scope) (x : Str) (xs : List Expr) (kws : List Keyword) (c : List Expr → Bool) (gf : Str → Option Nat) (T : Nat → Option Ev.Fn) : Bool :=
  match b with
  | .lenset => match xs, kws with
    | [.Call (.Name y _) ys [] _], [] => ok && decide (x = "len") && decide (y = "set") && glbB sc y && decide (ys.length = 1) && c ys
    | _, _ => false
  | .tupvals => match xs, kws with
    | [.Call (.Attribute y z apos) [] [] pos], [] => ok && decide (x = "tuple") && decide (z = "values") && apos.endLine == pos.line && noSuper y && c [y]
    | _, _ => false
  | .sortedk j => match xs, kws with
    | [y], [⟨some kw, .Name z _, _⟩] => ok && decide (x = "sorted") && decide (kw = "key") && glbB sc z && nmB z && decide (j < 1000) && (match gf z with | some k => keyD (T k) j | none => false) && c [y]
    | _, _ => false
  | _ => false
mutual
/-- t: as a test -/
def chE (G : Sig) (hot : Bool) (N : List Str) : Ev.E → Bool → Scope → Expr → Bool
  | .var i, _, sc, .Name x _ => N[i]? == some x && visB sc x && nmB x
  | .con u, _, _, .Constant c _ _ => chC u c
  | .glb g, _, sc, .Name x _ => glbB sc x && nmB x && G.gk x == some g
  | .bin op a b, _, sc, .BinOp l o r _ => chB op o && chE G hot N a false sc l && chE G hot N b false sc r
  | .bin op a b, _, sc, .Subscript x (.Slice none none (some y) _) _ => stB op && chE G hot N a false sc x && chE G hot N b false sc y
  | .neg a, _, sc, .UnaryOp .USub x _ => chE G hot N a false sc x
  | .cmp op a b, _, sc, .Compare l [o] [r] _ => chO op o && !behindInMarks o r && chE G hot N a false sc l && chE G hot N b false sc r
  | .chain o1 o2 a b c, _, sc, .Compare l [p1, p2] [r1, r2] _ => chO o1 p1 && chO o2 p2 && !behindInMarks p1 r1 && !behindInMarks p2 r2 && chE G hot N a false sc l && chE G hot N b false sc r1 && chE G hot N c false sc r2
  | .not a, t, sc, .UnaryOp .Not x _ => chE G hot N a t sc x
  | .and es, t, sc, .BoolOp .And xs _ => !xs.isEmpty && chEs G hot N es t sc xs
  | .or es, t, sc, .BoolOp .Or xs _ => !xs.isEmpty && chEs G hot N es t sc xs
  | .ife t a b, tt, sc, .IfExp t' a' b' _ => !tt && chE G hot N t true sc t' && chE G hot N a false sc a' && chE G hot N b false sc b'
  | .tup es, _, sc, .Tuple xs _ _ => decide (xs.length ≤ 1000) && chEs G hot N es false sc xs
  | .lst es, _, sc, .List xs _ => decide (xs.length ≤ 1000) && chEs G hot N es false sc xs
  | .dic ks vs, _, sc, .Dict xs ys _ => match xs, ys with
    | [], [] => chEs G hot N ks false sc [] && chEs G hot N vs false sc []
    | [some x], [y] => chEs G hot N ks false sc [x] && chEs G hot N vs false sc [y]
    | _, _ => false
  | .ix a i, _, sc, .Subscript x y _ => noSlice y && chE G hot N a false sc x && chE G hot N i false sc y
  | .sl a lo hi, _, sc, .Subscript x (.Slice l u none _) _ => chE G hot N a false sc x && chEs G hot N lo false sc l.toList && chEs G hot N hi false sc u.toList
  | .call f es, _, sc, .Call (.Name x _) xs [] _ => !hot && glbB sc x && nmB x && G.gf x == some f && chEs G hot N es false sc xs
  | .mk c es, _, sc, .Call (.Name x _) xs [] _ => !hot && glbB sc x && nmB x && G.gc x == some c && (G.Γ.ini c).isSome && chEs G hot N es false sc xs
  | .meth o m es, _, sc, .Call (.Attribute x y apos) xs [] pos => !hot && G.an[m]? == some y && noSuper x && apos.endLine == pos.line && decide (xs.length < 30) && chE G hot N o false sc x && chEs G hot N es false sc xs
  | .fld o f, _, sc, .Attribute x y _ => G.an[f]? == some y && noSuper x && chE G hot N o false sc x
  | .bi b es, _, sc, .Call (.Name x _) xs kws _ => if spB b then chSp b (!hot && glbB sc x) sc x xs kws (chEs G hot N es false sc) G.gf G.T else kws.isEmpty && !hot && glbB sc x && decide (x = biN b) && (biV b).isSome && decide (1 ≤ xs.length) && chEs G hot N es false sc xs
  | .isi a ts, _, sc, .Call (.Name x _) [y, t] [] _ => glbB sc x && decide (x = "isinstance") && noStar y && chE G hot N a false sc y && (match ts with
    | [] => false
    | [t1] => match t1, t with
      | .cls c, .Name z _ => glbB sc z && nmB z && G.gc z == some c
      | t1, .Name z p => glbB sc z && tyB t1 (.Name z p)
      | _, _ => false
    | ts => match t with
      | .Tuple zs _ _ => decide (zs.length = ts.length) && (ts.zip zs).all (fun p => tyB p.1 p.2 && (match p.2 with | .Name z _ => glbB sc z | _ => false)) && decide (zs.length ≤ 8)
      | _ => false)
  | .bm b o es, _, sc, .Call (.Attribute x y apos) xs [] pos => !hot && noSuper x && apos.endLine == pos.line && chE G hot N o false sc x && chEs G hot N es false sc xs && (match b with
    | .append => decide (y = "append") && decide (xs.length = 1)
    | .extend => decide (y = "extend") && decide (xs.length = 1)
    | .join => decide (y = "join") && decide (xs.length = 1)
    | .index => decide (y = "index") && decide (xs.length = 1)
    | .split => decide (y = "split") && decide (xs.length = 1)
    | _ => false)
  | .lc elt p it c own, _, sc, .ListComp x [⟨tg, iter, ifs, 0⟩] scope _ => !hot && blkC N sc scope (own.map fun i => (N.getD i "", i)) && (slots p).all (fun i => decide (i ∈ own)) && chP N false (relS scope sc) p tg && noSet iter &&
      chI G hot N it sc iter (isTupE tg) && chE G hot N elt false (relS scope sc) x && chEs G hot N c true (relS scope sc) ifs && decide (ifs.length ≤ 1)
  | _, _, _, _ => false
termination_by structural x => x
def chEs (G : Sig) (hot : Bool) (N : List Str) : Ev.E → Bool → Scope → List Expr → Bool
  | .nil, _, _, [] => true
  | .cons a b, t, sc, e :: es => noStar e && chE G hot N a t sc e && chEs G hot N b t sc es
  | _, _, _, _ => false
termination_by structural x => x
/-- what is walked; whether the target is a tuple -/
def chI (G : Sig) (hot : Bool) (N : List Str) : Ev.E → Scope → Expr → Bool → Bool
  | .iseq a, sc, e, _ => chE G hot N a false sc e
  | .irange1 a, sc, .Call (.Name x _) [y] [] _, _ => glbB sc x && decide (x = "range") && noStar y && chE G hot N a false sc y
  | .irange2 a b, sc, .Call (.Name x _) [y, z] [] _, _ => glbB sc x && decide (x = "range") && noStar y && noStar z && chE G hot N a false sc y && chE G hot N b false sc z
  | .ienum a, sc, .Call (.Name x _) [y] [] _, tp => tp && glbB sc x && decide (x = "enumerate") && noStar y && chE G hot N a false sc y
  | .izip a b, sc, .Call (.Name x _) [y, z] [] _, tp => tp && glbB sc x && decide (x = "zip") && noStar y && noStar z && chE G hot N a false sc y && chE G hot N b false sc z
  | _, _, _, _ => false
termination_by structural x => x
end
end EvS
/-! EvI: the surroundings; expressions. -/
namespace EvS
open PySem PySem.Spec PyProof.Rows L2
open Ev (U AO AH DK)

def lv (n : Nat) : Nat := 2 * n + 4
/-- what a def promises, by its reading at depth n -/
def spF (G : Sig) (n k : Nat) : Sp := fun vs H Q E => ∃ d, G.T k = some d ∧ vs.length = d.np ∧ ∃ (r : List Addr) (h : AH) (us : List U), RS G none r h H ∧ RUs G none r H us vs ∧
  Post G none (rlU G none) (Ev.callF G.Γ G.T n k us h) r H Q E
def bnames : List Str := ["len", "max", "min", "sum", "all", "any", "str", "int", "abs", "list", "tuple", "divmod", "sorted", "set", "isinstance", "bool", "dict", "range", "enumerate", "zip", "repr"]
structure Glo (G : Sig) (n : Nat) (X : Cx) : Prop where
  hK : X.K = G.K
  fn : ∀ k d, G.T k = some d → ∃ fdv ps, FnOk X.prog X.w X.K X.mg X.base (L2.CX X.prog X.w) (lv n) (G.fa k) fdv ps (spF G n k) ∧ Binds X.K fdv ps []
  gf : ∀ x k, G.gf x = some k → ∃ d, G.T k = some d ∧ X.mg x = some (.ref (G.fa k)) ∧ PySem.W.keepIn X.K (.ref (G.fa k)) = true
  gc : ∀ x c, G.gc x = some c → X.mg x = some (.ref (G.ca c))
  gk : ∀ x k, G.gk x = some k → ∃ u v w, G.Γ.glb[k]? = some u ∧ X.mg x = some w ∧ RelV v w ∧ ∀ xa r H, RU G xa r H u v
  blt : ∀ x ∈ bnames, X.mg x = none
  ini : ∀ c f, G.Γ.ini c = some f → (∃ d, G.T f = some d) ∧ Mk X.K (G.ca c) (G.fa f) ∧ PySem.W.keepIn X.K (.ref (G.ca c)) = true
  mt : ∀ c m f, G.Γ.mt c m = some f → (∃ d, G.T f = some d) ∧ Cls X.K (G.ca c) ∧ ∀ y, G.an[m]? = some y → Meth X.K (G.ca c) y (G.fa f)
  fl : ∀ c f, G.Γ.fl c f = true → Cls X.K (G.ca c) ∧ ∀ y, G.an[f]? = some y → NoAttr X.K (G.ca c) y
  an : G.an.Nodup
  isi : IsiG G
  kd : ∀ k j, keyD (G.T k) j = true → KTxt X.K (G.fa k) j
structure Okx (G : Sig) (xa : Xa) (W : WX) (n : Nat) (hot : Bool) (N : List Str) (sc : Scope) (X : Cx) : Prop where
  glo : Glo G n X
  hN : X.N = N
  nd : N.Nodup
  hsc : X.env.scope = sc
  un : X.A.units + 64 < cLine
  cold : hot = false → X.calm = true ∧ Room (lv n + 1) X.A ∧ Takes X W ∧ xa = none
  xfr : ∀ (e : Expr) (te : TE) (y : Str) (pos : Pos), noSuper e = true → PE X e te → PE X (.Attribute e y pos) (fun σ H Q => te σ H fun x H1 => ∃ (c f : Nat) (a dd : Addr) (fs : List (Str × V)) (v : V), xa = some (a, .ref (G.ca c), some dd) ∧ f ∈ G.Γ.xf c ∧ G.an[f]? = some y ∧ x = .ref a ∧ H1 dd = some (.xd fs) ∧ fs.lookup y = some v ∧ Q v H1)

theorem PE.any {X : Cx} {e : Expr} {ι : Type} {p : ι → Prop} {t : ι → TE} (h : ∀ i, p i → PE X e (t i)) : PE X e (fun σ H Q => ∃ i, p i ∧ t i σ H Q) :=
  ⟨fun pins s σ H Q I ⟨i, hp, q⟩ => (h i hp).run pins s σ H Q I q⟩
theorem PE.or {X : Cx} {e : Expr} {t t' : TE} (h : PE X e t) (h' : PE X e t') : PE X e (fun σ H Q => t σ H Q ∨ t' σ H Q) :=
  ⟨fun pins s σ H Q I q => q.elim (h.run pins s σ H Q I) (h'.run pins s σ H Q I)⟩

section
variable {G : Sig} {xa : Xa} {W : WX} {n : Nat} {hot : Bool} {N : List Str} {sc : Scope} {X : Cx}
/-- an outcome that is reached without the rest -/
theorem tE_raw {x : Ev.E} {r : List Addr} {e : Ev.Env} {h : AH} {s : L2.St} {H : Hp} {Q : VK} (R : RS G xa r h H) (E : REn G xa r H e s) (p : Post G xa (rlU G xa) (evE G n x e h) r H Q (fun c d => W c d s)) : tE G xa W n x s H Q := ⟨r, e, h, R, E, p⟩
theorem es_nil {es : List Expr} {x : Ev.E} (c : chEs G hot N x false sc es = true) (h0 : es = []) : ∀ σ H Q, tEs G xa W n x σ H Q → Q [] H := by
  subst h0
  intro σ H Q ⟨r, e, h, R, E, p⟩
  cases x with
  | nil =>
    unfold evEs Ev.evEs at p
    exact Post.okI p R RUs.nil
  | _ => cases c
theorem es_star {t : Bool} : ∀ {es : List Expr} {x : Ev.E}, chEs G hot N x t sc es = true → es.all noStar = true
  | [], _, _ => rfl
  | e :: es, x, c => by
    cases x with
    | cons a b =>
      unfold chEs at c
      simp only [Bool.and_eq_true] at c
      simp only [List.all_cons, Bool.and_eq_true]
      exact ⟨c.1.1, es_star c.2⟩
    | _ => cases c
theorem es_len : ∀ {es : List Expr} {x : Ev.E} {e : Ev.Env} {h h' : AH} {us : List U}, chEs G hot N x false sc es = true → evEs G n x e h = .ok us h' → us.length = es.length
  | [], x, e, h, h', us, c, q => by
    cases x with
    | nil => unfold evEs Ev.evEs at q; cases q; rfl
    | _ => cases c
  | y :: es, x, e, h, h', us, c, q => by
    cases x with
    | cons a b =>
      unfold chEs at c
      simp only [Bool.and_eq_true] at c
      unfold evEs Ev.evEs at q
      cases z : Ev.evE G.Γ (Ev.callF G.Γ G.T n) a e h with
      | ok u h1 =>
        rw [z] at q
        simp only [Ev.R.bind] at q
        cases z2 : Ev.evEs G.Γ (Ev.callF G.Γ G.T n) b e h1 with
        | ok us2 h2 =>
          rw [z2] at q
          cases q
          rw [List.length_cons, List.length_cons, es_len c.2 z2]
        | exc _ _ _ => rw [z2] at q; cases q
        | bad => rw [z2] at q; cases q
      | exc _ _ _ => rw [z] at q; cases q
      | bad => rw [z] at q; cases q
    | _ => cases c

/-! one step a construct: what the parts give, put together -/
theorem c_var {i : Nat} {x : Str} {pos : Pos} (O : Okx G xa W n hot N sc X) (h1 : N[i]? = some x) (h2 : visB sc x = true) (h3 : nmB x = true) : PE X (.Name x pos) (tE G xa W n (.var i)) := by
  obtain ⟨d1, d2, _⟩ := nmB_ok h3
  refine PE.imp (pe_var (i := i) (by rw [O.hN]; exact h1) (by rw [O.hsc]; exact visB_ok h2) d1 d2) fun s H Q ⟨r, e, h, R, E, p⟩ => ?_
  unfold evE Ev.evE at p
  split at p
  case _ u z =>
    obtain ⟨v, z1, z2⟩ := E.2 i u z
    exact ⟨v, z1, Post.okI p R z2⟩
  case _ => exact p.elim
theorem c_con {u : U} {c : Const} {k : _} {pos : Pos} (h : chC u c = true) : PE X (.Constant c k pos) (tE G xa W n (.con u)) := by
  have fin : ∀ {v : V}, (∀ r H, RU G xa r H u v) → PE X (.Constant c k pos) (tC v) → PE X (.Constant c k pos) (tE G xa W n (.con u)) := fun {v} hr hp =>
    PE.imp hp fun s H Q ⟨r, e, h, R, E, p⟩ => Post.okI (u := u) p R (hr r H)
  cases u with
  | non => cases c <;> first | exact fin (fun _ _ => rfl) pe_non | cases h
  | bl b =>
    cases c with
    | bool b' =>
      have : b = b' := by simpa [chC] using h
      subst this
      exact fin (fun _ _ => rfl) pe_bl
    | _ => cases h
  | int b =>
    cases c with
    | int b' =>
      have : b = b' := by simpa [chC] using h
      subst this
      exact fin (fun _ _ => rfl) pe_int
    | _ => cases h
  | str b =>
    cases c with
    | str b' =>
      have : b' = mkS b := by simpa [chC] using h
      subst this
      exact fin (fun _ _ => rfl) pe_str
    | _ => cases h
  | tup _ => cases h
  | ref _ => cases h
  | exc _ _ => cases h
  | fn _ => cases h
theorem gl_of (O : Okx G xa W n hot N sc X) {x : Str} (h : glbB sc x = true) : Gl X x := by
  show X.env.scope.names.lookup x = _
  rw [O.hsc]
  exact glbB_ok h
theorem c_glb {g : Nat} {x : Str} {pos : Pos} (O : Okx G xa W n hot N sc X) (h1 : glbB sc x = true) (h2 : nmB x = true) (h3 : G.gk x = some g) : PE X (.Name x pos) (tE G xa W n (.glb g)) := by
  obtain ⟨d1, _, _⟩ := nmB_ok h2
  obtain ⟨u, v, w, e1, e2, e3, e4⟩ := O.glo.gk x g h3
  refine PE.imp (pe_glob (gl_of O h1) e2 e3 d1) fun s H Q ⟨r, e, h, R, E, p⟩ => ?_
  unfold evE Ev.evE Ev.ofO at p
  rw [e1] at p
  exact Post.okI p R (e4 xa r H)
theorem c_bin {op : Ev.BOp} {o : Operator} {a b : Ev.E} {l q : Expr} {pos : Pos} (O : Okx G xa W n hot N sc X) (h1 : chB op o = true) (ha : PE X l (tE G xa W n a)) (hb : PE X q (tE G xa W n b)) : PE X (.BinOp l o q pos) (tE G xa W n (.bin op a b)) := by
  have hst : op ≠ .step := by rintro rfl; cases o <;> cases h1
  have eo : o = bop op := by cases op <;> cases o <;> first | rfl | cases h1
  subst eo
  refine PE.imp (PE.any (p := fun _ : WK => True) (t := fun W' => tOp (rB G xa (Ev.evBin op) W') (tE G xa W n a) (tE G xa W n b)) (fun W' _ => pe_op (op_bin O.glo.hK op hst W') ha hb)) fun s H Q ⟨r, e, h, R, E, p⟩ => ?_
  refine ⟨fun c d => W c d s, trivial, ?_⟩
  unfold evE Ev.evE at p
  refine tE_bind R E p fun r1 H1 u v h1 X1 R1 E1 k1 p1 => tE_bind R1 E1 p1 fun r2 H2 u2 v2 h2 X2 R2 E2 k2 p2 => ⟨r2, h2, u, u2, R2, k1.mono X2, k2, p2⟩
theorem c_cmp {op : Ev.COp} {o : CmpOp} {a b : Ev.E} {l q : Expr} {pos : Pos} (O : Okx G xa W n hot N sc X) (h1 : chO op o = true) (h2 : behindInMarks o q = false) (ha : PE X l (tE G xa W n a)) (hb : PE X q (tE G xa W n b)) : PE X (.Compare l [o] [q] pos) (tE G xa W n (.cmp op a b)) := by
  have eo : o = cop op := by cases op <;> cases o <;> first | rfl | cases h1
  subst eo
  refine PE.imp (PE.any (p := fun _ : WK => True) (t := fun W' => tOp (rB G xa (fun u v h => (Ev.ofO (Ev.evCmp op u v h) h).bind fun k h => .ok (.bl k) h) W') (tE G xa W n a) (tE G xa W n b)) (fun W' _ => pe_cmpR (op_cmp O.glo.hK O.un op W') ha hb h2)) fun s H Q ⟨r, e, h, R, E, p⟩ => ?_
  refine ⟨fun c d => W c d s, trivial, ?_⟩
  unfold evE Ev.evE at p
  refine tE_bind R E p fun r1 H1 u v h1 X1 R1 E1 k1 p1 => tE_bind R1 E1 p1 fun r2 H2 u2 v2 h2 X2 R2 E2 k2 p2 => ⟨r2, h2, u, u2, R2, k1.mono X2, k2, p2⟩
theorem c_call {f : Nat} {x : Str} {es : List Expr} {as : Ev.E} {p pos : Pos} (O : Okx G xa W n false N sc X) (h1 : glbB sc x = true) (h2 : nmB x = true) (h3 : G.gf x = some f) (hc : chEs G false N as false sc es = true) (ha : PA X es (tEs G xa W n as)) :
    PE X (.Call (.Name x p) es [] pos) (tE G xa W n (.call f as)) := by
  obtain ⟨d1, _, _⟩ := nmB_ok h2
  obtain ⟨d, hd, hm, hk⟩ := O.glo.gf x f h3
  obtain ⟨fdv, ps, F, hb⟩ := O.glo.fn f d hd
  obtain ⟨cm, hr, tk, hx⟩ := O.cold rfl
  subst hx
  refine PE.imp (g_call F (hr.mono (Nat.le_succ _)) (gl_of O h1) hm hk hb (fun σ => passAt tk σ) ha (fun h0 => es_nil hc h0) d1 (es_star hc)) fun s H Q ⟨r, e, h, R, E, p⟩ => ?_
  unfold evE Ev.evE at p
  refine tEs_bind R E p fun r1 H1 us vs h1 X1 R1 E1 k1 p1 => ⟨d, hd, ?_, r1, h1, us, R1, k1, p1⟩
  have : us.length = d.np := by
    cases n with
    | zero => exact (show False from p1).elim
    | succ m =>
      unfold Ev.callF at p1
      rw [hd] at p1
      dsimp only at p1
      split at p1
      · assumption
      · exact (show False from p1).elim
  rw [← k1.len]
  exact this
end
end EvS
/-! EvJ: expressions, further: one step a construct. -/
namespace EvS
open PySem PySem.Spec PyProof.Rows L2
open Ev (U AO AH DK)

/-- the last of and, or: their values -/
def tAn (G : Sig) (xa : Xa) (W : WX) (n : Nat) (x : Ev.E) : TE := fun s H Q => ∃ (r : List Addr) (e : Ev.Env) (h : AH), RS G xa r h H ∧ REn G xa r H e s ∧ Post G xa (rlU G xa) (Ev.evAnd G.Γ (Ev.callF G.Γ G.T n) x e h) r H Q (fun c d => W c d s)
def tOn (G : Sig) (xa : Xa) (W : WX) (n : Nat) (x : Ev.E) : TE := fun s H Q => ∃ (r : List Addr) (e : Ev.Env) (h : AH), RS G xa r h H ∧ REn G xa r H e s ∧ Post G xa (rlU G xa) (Ev.evOr G.Γ (Ev.callF G.Γ G.T n) x e h) r H Q (fun c d => W c d s)
def tAnT (G : Sig) (xa : Xa) (W : WX) (n : Nat) (x : Ev.E) : TT := fun s H Q => ∃ (r : List Addr) (e : Ev.Env) (h : AH), RS G xa r h H ∧ REn G xa r H e s ∧ Post G xa rlB (Ev.truR (Ev.evAnd G.Γ (Ev.callF G.Γ G.T n) x e h)) r H Q (fun c d => W c d s)
def tOnT (G : Sig) (xa : Xa) (W : WX) (n : Nat) (x : Ev.E) : TT := fun s H Q => ∃ (r : List Addr) (e : Ev.Env) (h : AH), RS G xa r h H ∧ REn G xa r H e s ∧ Post G xa rlB (Ev.truR (Ev.evOr G.Γ (Ev.callF G.Γ G.T n) x e h)) r H Q (fun c d => W c d s)
section
variable {G : Sig} {xa : Xa} {W : WX} {n : Nat} {hot : Bool} {N : List Str} {sc : Scope} {X : Cx} {pos : Pos}
theorem c_neg {a : Ev.E} {l : Expr} (ha : PE X l (tE G xa W n a)) : PE X (.UnaryOp .USub l pos) (tE G xa W n (.neg a)) := by
  refine PE.imp (pe_un un_neg ha) fun s H Q ⟨r, e, h, R, E, p⟩ => ?_
  unfold evE Ev.evE at p
  refine tE_bind R E p fun r1 H1 u v h1 X1 R1 E1 k1 p1 => ?_
  split at p1
  case _ i => exact ⟨i, k1, p1.okV R1 rfl⟩
  case _ => exact p1.elim
theorem ofO_some {α β : Type} {γ : Type} {rel : List Addr → Hp → γ → β → Prop} {o : Option α} {h : AH} {f : α → AH → Ev.R γ} {r : List Addr} {H : Hp} {Q : β → Hp → Prop} {W : WK} (p : Post G xa rel ((Ev.ofO o h).bind f) r H Q W) : ∃ k, o = some k ∧ Post G xa rel (f k h) r H Q W := by
  cases o with
  | some k => exact ⟨k, rfl, p⟩
  | none => exact p.elim
theorem c_chain {o1 o2 : Ev.COp} {p1 p2 : CmpOp} {a b c : Ev.E} {l q q2 : Expr} (O : Okx G xa W n hot N sc X) (h1 : chO o1 p1 = true) (h2 : chO o2 p2 = true) (h3 : behindInMarks p2 q2 = false)
    (ha : PE X l (tE G xa W n a)) (hb : PE X q (tE G xa W n b)) (hc : PE X q2 (tE G xa W n c)) : PE X (.Compare l [p1, p2] [q, q2] pos) (tE G xa W n (.chain o1 o2 a b c)) := by
  have e1 : p1 = cop o1 := by cases o1 <;> cases p1 <;> first | rfl | cases h1
  have e2 : p2 = cop o2 := by cases o2 <;> cases p2 <;> first | rfl | cases h2
  subst e1 e2
  refine PE.imp (PE.any (p := fun _ : WK => True) (t := fun W' => tChain (rB G xa (fun u v h => (Ev.ofO (Ev.evCmp o1 u v h) h).bind fun k h => .ok (.bl k) h) W') (rB G xa (fun u v h => (Ev.ofO (Ev.evCmp o2 u v h) h).bind fun k h => .ok (.bl k) h) W') (tE G xa W n a) (tE G xa W n b) (tE G xa W n c))
    (fun W' _ => pe_chain (op_cmp O.glo.hK O.un o1 W') (op_cmp O.glo.hK O.un o2 W') ha hb hc (by exact h3))) fun s H Q ⟨r, e, h, R, E, p⟩ => ?_
  refine ⟨fun c d => W c d s, trivial, ?_⟩
  unfold evE Ev.evE at p
  refine tE_bind R E p fun r1 H1 u v h1 X1 R1 E1 k1 p1 => tE_bind R1 E1 p1 fun r2 H2 u2 v2 h2 X2 R2 E2 k2 p2 => ?_
  obtain ⟨k, ek, p3⟩ := ofO_some p2
  refine ⟨r2, h2, u, u2, R2, k1.mono X2, k2, ?_⟩
  dsimp only
  rw [ek]
  intro r3 H3 z X3 R3 kz
  have ez : z = .bl k := kz
  refine ⟨k, ez, ?_⟩
  have p4 := Post.mono X3 p3
  cases k with
  | true =>
    refine iteT (tE_bind R3 (E2.mono X3) p4 fun r4 H4 u4 v4 h4 X4 R4 E4 k4 p5 => ?_)
    exact ⟨r4, h4, u2, u4, R4, (k2.mono X3).mono X4, k4, p5⟩
  | false => exact iteF (Post.okI (u := U.bl false) p4 R3 rfl)
theorem truR_bind {β : Type} {α : Type} {rel : List Addr → Hp → α → β → Prop} {o : Ev.R U} {f : Bool → AH → Ev.R α} {r : List Addr} {H : Hp} {Q : β → Hp → Prop} {W : WK} (p : Post G xa rel ((Ev.truR o).bind f) r H Q W) :
    Post G xa rel (o.bind fun u h => (Ev.ofO (Ev.tru h u) h).bind f) r H Q W := by
  cases o with
  | ok u h => exact p
  | exc c xs h => exact p
  | bad => exact p
theorem truR_eq {o : Ev.R U} {r : List Addr} {H : Hp} {Q : Bool → Hp → Prop} {W : WK} (p : Post G xa rlB (Ev.truR o) r H Q W) :
    Post G xa rlB (o.bind fun u h => (Ev.ofO (Ev.tru h u) h).bind fun k h => .ok k h) r H Q W := by
  refine truR_bind ?_
  cases z : Ev.truR o with
  | ok u h => rw [z] at p; exact p
  | exc c xs h => rw [z] at p; exact p
  | bad => rw [z] at p; exact p
theorem c_not {a : Ev.E} {l : Expr} (O : Okx G xa W n hot N sc X) (ha : PE X l (tE G xa W n a)) : PE X (.UnaryOp .Not l pos) (tE G xa W n (.not a)) := by
  refine PE.imp (pe_notT ha) fun s H Q ⟨r, e, h, R, E, p⟩ => ?_
  unfold evE Ev.evE at p
  refine tE_bind R E (truR_bind p) fun r1 H1 u v h1 X1 R1 E1 k1 p1 => ?_
  obtain ⟨k, ek, p3⟩ := ofO_some p1
  exact ⟨k, tru_rel O.glo.hK R1 ek k1, Post.okV (u := .bl (!k)) p3 R1 rfl⟩
/-- any expression as a test -/
theorem t_any {x : Ev.E} {l : Expr} (O : Okx G xa W n hot N sc X) (hp : plainT l = true) (ha : PE X l (tE G xa W n x)) : PT X l (tT G xa W n x) := by
  refine PT.imp (pt_truth ha (plain_test hp)) fun s H Q ⟨r, e, h, R, E, p⟩ => ?_
  refine tE_bind R E (truR_eq p) fun r1 H1 u v h1 X1 R1 E1 k1 p1 => ?_
  obtain ⟨k, ek, p3⟩ := ofO_some p1
  exact ⟨k, tru_rel O.glo.hK R1 ek k1, Post.okI (u := k) p3 R1 rfl⟩
theorem t_not {a : Ev.E} {l : Expr} (ha : PT X l (tT G xa W n a)) : PT X (.UnaryOp .Not l pos) (tT G xa W n (.not a)) := by
  refine PT.imp (pt_not ha) fun s H Q ⟨r, e, h, R, E, p⟩ => ?_
  have p' : Post G xa rlB ((Ev.truR (evE G n a e h)).bind fun k h => .ok (!k) h) r H Q (fun c d => W c d s) := by
    unfold evE Ev.evE at p
    cases z : Ev.truR (Ev.evE G.Γ (Ev.callF G.Γ G.T n) a e h) with
    | ok u h1 => rw [z] at p; exact p
    | exc c xs h1 => rw [z] at p; exact p
    | bad => rw [z] at p; exact p
  exact tT_bind R E p' fun r1 H1 u h1 X1 R1 E1 p1 => Post.okI (u := !u) p1 R1 rfl
theorem t_cmp {op : Ev.COp} {o : CmpOp} {a b : Ev.E} {l q : Expr} (O : Okx G xa W n hot N sc X) (h1 : chO op o = true) (h2 : behindInMarks o q = false) (ha : PE X l (tE G xa W n a)) (hb : PE X q (tE G xa W n b)) : PT X (.Compare l [o] [q] pos) (tT G xa W n (.cmp op a b)) := by
  have eo : o = cop op := by cases op <;> cases o <;> first | rfl | cases h1
  subst eo
  have T : ∀ W' : WK, PT X (.Compare l [cop op] [q] pos) (tTest (tOp (rB G xa (fun u v h => (Ev.ofO (Ev.evCmp op u v h) h).bind fun k h => .ok (.bl k) h) W') (tE G xa W n a) (tE G xa W n b))) := fun W' => pt_cmpR (op_cmp O.glo.hK O.un op W') ha hb h2
  refine ⟨fun pins s σ H Q I ⟨r, e, h, R, E, p⟩ => (T (fun c d => W c d σ)).run pins s σ H Q I ?_⟩
  unfold evE Ev.evE at p
  have p' := truR_eq p
  have p2 : Post G xa rlB ((Ev.evE G.Γ (Ev.callF G.Γ G.T n) a e h).bind fun u h1 => (Ev.evE G.Γ (Ev.callF G.Γ G.T n) b e h1).bind fun v h2 => (Ev.ofO (Ev.evCmp op u v h2) h2).bind fun k h3 => .ok k h3) r H Q (fun c d => W c d σ) := by
    cases z : Ev.evE G.Γ (Ev.callF G.Γ G.T n) a e h with
    | exc c xs h1 => rw [z] at p'; exact p'
    | bad => rw [z] at p'; exact p'
    | ok u h1 =>
      rw [z] at p'
      simp only [Ev.R.bind] at p' ⊢
      cases z2 : Ev.evE G.Γ (Ev.callF G.Γ G.T n) b e h1 with
      | exc c xs h2 => rw [z2] at p'; exact p'
      | bad => rw [z2] at p'; exact p'
      | ok v h2 =>
        rw [z2] at p'
        simp only at p' ⊢
        cases z3 : Ev.evCmp op u v h2 with
        | none => rw [z3] at p'; exact p'
        | some k => rw [z3] at p'; exact p'
  refine tE_bind R E p2 fun r1 H1 u v h1 X1 R1 E1 k1 p1 => tE_bind R1 E1 p1 fun r2 H2 u2 v2 h2 X2 R2 E2 k2 p2 => ?_
  obtain ⟨k, ek, p3⟩ := ofO_some p2
  refine ⟨r2, h2, u, u2, R2, k1.mono X2, k2, ?_⟩
  dsimp only
  rw [ek]
  intro r3 H3 z X3 R3 kz
  have ez : z = .bl k := kz
  exact ⟨k, ez, Post.okI (u := k) (Post.mono X3 p3) R3 rfl⟩
theorem c_ife {t a b : Ev.E} {c l q : Expr} (hc : PT X c (tT G xa W n t)) (ha : PE X l (tE G xa W n a)) (hb : PE X q (tE G xa W n b)) : PE X (.IfExp c l q pos) (tE G xa W n (.ife t a b)) := by
  refine PE.imp (pe_ifExp hc ha hb) fun s H Q ⟨r, e, h, R, E, p⟩ => ?_
  unfold evE Ev.evE at p
  refine tT_bind R E p fun r1 H1 k h1 X1 R1 E1 p1 => ?_
  cases k with
  | true => exact iteT (tE_raw R1 E1 p1)
  | false => exact iteF (tE_raw R1 E1 p1)
theorem c_tup {es : List Expr} {x : Ev.E} {k : _} (hl : es.length ≤ Ev.lim) (hc : chEs G hot N x false sc es = true) (ha : PA X es (tEs G xa W n x)) : PE X (.Tuple es k pos) (tE G xa W n (.tup x)) := by
  refine PE.imp (pe_tup ha) fun s H Q ⟨r, e, h, R, E, p⟩ => ?_
  unfold evE Ev.evE at p
  refine ⟨r, e, h, R, E, ?_⟩
  cases z : evEs G n x e h with
  | ok us h1 =>
    rw [show Ev.evEs G.Γ (Ev.callF G.Γ G.T n) x e h = .ok us h1 from z] at p
    intro r1 H1 vs X1 R1 k1
    have k1' : RUs G xa r1 H1 us vs := k1
    refine ⟨?_, fun p' hp => Post.newT (Post.mono X1 p) R1 k1' hp⟩
    rw [← k1'.len, es_len hc z]
    exact lim_ok hl
  | exc c xs h1 => rw [show Ev.evEs G.Γ (Ev.callF G.Γ G.T n) x e h = .exc c xs h1 from z] at p; exact p
  | bad => rw [show Ev.evEs G.Γ (Ev.callF G.Γ G.T n) x e h = .bad from z] at p; exact p
theorem c_lst {es : List Expr} {x : Ev.E} (hl : es.length ≤ Ev.lim) (hc : chEs G hot N x false sc es = true) (ha : PA X es (tEs G xa W n x)) : PE X (.List es pos) (tE G xa W n (.lst x)) := by
  refine PE.imp (pe_lst ha) fun s H Q ⟨r, e, h, R, E, p⟩ => ?_
  unfold evE Ev.evE at p
  refine ⟨r, e, h, R, E, ?_⟩
  cases z : evEs G n x e h with
  | ok us h1 =>
    rw [show Ev.evEs G.Γ (Ev.callF G.Γ G.T n) x e h = .ok us h1 from z] at p
    intro r1 H1 vs X1 R1 k1
    have k1' : RUs G xa r1 H1 us vs := k1
    refine ⟨?_, fun p' hp => Post.newL (Post.mono X1 p) R1 k1' hp⟩
    rw [← k1'.len, es_len hc z]
    exact lim_ok hl
  | exc c xs h1 => rw [show Ev.evEs G.Γ (Ev.callF G.Γ G.T n) x e h = .exc c xs h1 from z] at p; exact p
  | bad => rw [show Ev.evEs G.Γ (Ev.callF G.Γ G.T n) x e h = .bad from z] at p; exact p
theorem a_nil : PA X [] (tEs G xa W n .nil) := PA.imp pa_nil fun s H Q ⟨r, e, h, R, E, p⟩ => Post.okI (u := []) p R RUs.nil
theorem a_cons {a b : Ev.E} {l : Expr} {es : List Expr} (h1 : noStar l = true) (ha : PE X l (tE G xa W n a)) (hb : PA X es (tEs G xa W n b)) : PA X (l :: es) (tEs G xa W n (.cons a b)) := by
  refine PA.imp (pa_cons ha hb (star_cons h1)) fun s H Q ⟨r, e, h, R, E, p⟩ => ?_
  unfold evEs Ev.evEs at p
  refine tE_bind R E p fun r1 H1 u v h1 X1 R1 E1 k1 p1 => tEs_bind R1 E1 p1 fun r2 H2 us vs h2 X2 R2 E2 k2 p2 => ?_
  exact Post.okI (u := u :: us) p2 R2 (RUs.cons (k1.mono X2) k2)
end
end EvS
/-! EvK: expressions, further: subscripts, calls, fields, and, or. -/
namespace EvS
open PySem PySem.Spec PyProof.Rows L2
open Ev (U AO AH DK)

section
variable {G : Sig} {xa : Xa} {W : WX} {n : Nat} {hot : Bool} {N : List Str} {sc : Scope} {X : Cx} {pos : Pos}
theorem RFs.look {r : List Addr} {H : Hp} {f : Nat} {y : Str} (nd : G.an.Nodup) (hy : G.an[f]? = some y) {fs : List (Nat × U)} {gs : List (Str × V)} (k : RFs G xa r H fs gs) {w : U} (z : Ev.lookF fs f = some w) : ∃ w', gs.lookup y = some w' ∧ RU G xa r H w w' := by
  unfold Ev.lookF at z
  unfold RFs at k
  induction k with
  | nil => cases z
  | @cons a1 b1 as bs hab _ ih =>
    by_cases ef : a1.1 = f
    · have : w = a1.2 := by simpa [List.find?_cons, ef] using z.symm
      subst this
      have eb : b1.1 = y := by
        have := hab.1
        rw [ef, hy] at this
        exact (Option.some.inj this).symm
      refine ⟨b1.2, ?_, hab.2⟩
      obtain ⟨b11, b12⟩ := b1
      dsimp only at eb
      subst eb
      simp [List.lookup]
    · have ne2 : ¬ y = b1.1 := fun ez => by
        have h1 := hab.1
        rw [← ez] at h1
        have hl : a1.1 < G.an.length := (List.getElem?_eq_some_iff.mp h1).1
        exact ef ((List.getElem?_inj hl nd).mp (h1.trans hy.symm))
      have fb : (a1.1 == f) = false := by simpa using ef
      rw [List.find?_cons, fb] at z
      obtain ⟨w', i1, i2⟩ := ih z
      refine ⟨w', ?_, i2⟩
      obtain ⟨b11, b12⟩ := b1
      have : (y == b11) = false := by simpa using ne2
      simp [List.lookup, this, i1]
theorem RFs.look0 {r : List Addr} {H : Hp} {f : Nat} {y : Str} (nd : G.an.Nodup) (hy : G.an[f]? = some y) {fs : List (Nat × U)} {gs : List (Str × V)} (k : RFs G xa r H fs gs) (z : Ev.lookF fs f = none) : gs.lookup y = none := by
  unfold Ev.lookF at z
  unfold RFs at k
  induction k with
  | nil => rfl
  | @cons a1 b1 as bs hab _ ih =>
    by_cases ef : a1.1 = f
    · simp [List.find?_cons, ef] at z
    · have ne2 : ¬ y = b1.1 := fun ez => by
        have h1 := hab.1
        rw [← ez] at h1
        have hl : a1.1 < G.an.length := (List.getElem?_eq_some_iff.mp h1).1
        exact ef ((List.getElem?_inj hl nd).mp (h1.trans hy.symm))
      have fb : (a1.1 == f) = false := by simpa using ef
      rw [List.find?_cons, fb] at z
      obtain ⟨b11, b12⟩ := b1
      have : (y == b11) = false := by simpa using ne2
      simp only [List.lookup, this]
      exact ih z
theorem c_ix {a i : Ev.E} {l q : Expr} (O : Okx G xa W n hot N sc X) (hs : noSlice q = true) (ha : PE X l (tE G xa W n a)) (hb : PE X q (tE G xa W n i)) : PE X (.Subscript l q pos) (tE G xa W n (.ix a i)) := by
  have P1 := fun W' : WK => pe_ix (pos := pos) (op_ix (xa := xa) O.glo.hK W') ha hb (plain_ix hs)
  have P2 := pe_dget (pos := pos) (show X.A.units + 1 < cLine by have := O.un; omega) ha hb (plain_sl hs)
  refine ⟨fun pins s σ H Q I ⟨r, e, h, R, E, p⟩ => ?_⟩
  unfold evE Ev.evE at p
  have run1 : (∀ (u v : U) (h1 h2 : AH), Ev.evE G.Γ (Ev.callF G.Γ G.T n) a e h = .ok u h1 → Ev.evE G.Γ (Ev.callF G.Γ G.T n) i e h1 = .ok v h2 → ∀ m, u = .ref m → (Ev.lstAt h2 m).isSome = true) →
      wpAny (model X.prog X.w) X.A (eval (.Subscript l q pos) X.env) (EP X pins σ Q) X.xe s := fun nd => by
    refine (P1 (fun c d => W c d σ)).run pins s σ H Q I ⟨r, e, h, R, E, ?_⟩
    cases z : Ev.evE G.Γ (Ev.callF G.Γ G.T n) a e h with
    | exc c xs h1 => rw [z] at p; rw [show evE G n a e h = .exc c xs h1 from z]; exact p
    | bad => rw [z] at p; exact p.elim
    | ok u h1 =>
      rw [z] at p
      simp only [Ev.R.bind] at p
      rw [show evE G n a e h = .ok u h1 from z]
      intro r1 H1 v X1 R1 k1
      refine ⟨r1, e, h1, R1, E.mono X1, ?_⟩
      have p1 := Post.mono X1 p
      cases z2 : Ev.evE G.Γ (Ev.callF G.Γ G.T n) i e h1 with
      | exc c xs h2 => rw [z2] at p1; rw [show evE G n i e h1 = .exc c xs h2 from z2]; exact p1
      | bad => rw [z2] at p1; exact p1.elim
      | ok v2 h2 =>
        rw [z2] at p1
        rw [show evE G n i e h1 = .ok v2 h2 from z2]
        intro r2 H2 w X2 R2 k2
        exact ⟨r2, h2, u, v2, R2, RU.mono X2 k1, k2, nd u v2 h1 h2 z z2, Post.mono X2 p1⟩
  cases z : Ev.evE G.Γ (Ev.callF G.Γ G.T n) a e h with
  | exc c xs h1 => exact run1 fun u v h1 h2 e1 => by rw [z] at e1; cases e1
  | bad => rw [z] at p; exact p.elim
  | ok u h1 =>
    cases z2 : Ev.evE G.Γ (Ev.callF G.Γ G.T n) i e h1 with
    | exc c xs h2 => exact run1 fun u' v' h1' h2' e1 e2 => by rw [z] at e1; cases e1; rw [z2] at e2; cases e2
    | bad => rw [z] at p; simp only [Ev.R.bind] at p; rw [z2] at p; exact p.elim
    | ok v h2 =>
      by_cases nd : ∀ m, u = .ref m → (Ev.lstAt h2 m).isSome = true
      · exact run1 fun u' v' h1' h2' e1 e2 => by rw [z] at e1; cases e1; rw [z2] at e2; cases e2; exact nd
      · refine P2.run pins s σ H Q I ?_
        rw [z] at p
        simp only [Ev.R.bind] at p
        rw [z2] at p
        simp only at p
        refine ⟨r, e, h, R, E, ?_⟩
        rw [show evE G n a e h = .ok u h1 from z]
        intro r1 H1 v' X1 R1 k1
        refine ⟨r1, e, h1, R1, E.mono X1, ?_⟩
        rw [show evE G n i e h1 = .ok v h2 from z2]
        intro r2 H2 w X2 R2 k2
        have k1' : RU G xa r2 H2 u v' := RU.mono X2 k1
        have k2' : RU G xa r2 H2 v w := k2
        have p2 := Post.mono X2 (Post.mono X1 p)
        have ⟨m, em, nm⟩ : ∃ m, u = .ref m ∧ Ev.lstAt h2 m = none := by
          apply Classical.byContradiction
          intro no
          refine nd fun m em => ?_
          cases e3 : Ev.lstAt h2 m with
          | some _ => rfl
          | none => exact absurd ⟨m, em, e3⟩ no
        subst em
        unfold Ev.evIx at p2
        simp only [nm] at p2
        cases e4 : Ev.dicAt h2 m with
        | none => rw [e4] at p2; exact p2.elim
        | some kvs =>
          rw [e4] at p2
          cases e5 : Ev.keyOf v with
          | none => rw [e5] at p2; exact p2.elim
          | some d =>
            rw [e5] at p2
            dsimp only at p2
            obtain ⟨a', vs, rfl, _, t1, k3⟩ := R2.dicR e4 k1'
            have ew := key_rel e5 k2'
            subst ew
            rcases k3.val d with ⟨x, y, f1, f2, f3⟩ | ⟨f1, _⟩
            · rw [f1] at p2
              exact ⟨a', y, rfl, .inl ⟨vs, mkK d, t1, rfl, f2.symm⟩, Post.okI (u := x) p2 R2 f3⟩
            · rw [f1] at p2
              exact p2.elim
theorem o_nil : PO X none (fun s H Q => ∃ (r : List Addr) (e : Ev.Env) (h : AH), RS G xa r h H ∧ REn G xa r H e s ∧ Post G xa (fun _ _ a b => a = b) (Ev.evOpt G.Γ (Ev.callF G.Γ G.T n) .nil e h) r H Q (fun c d => W c d s)) :=
  ⟨fun pins s σ H Q I ⟨r, e, h, R, E, p⟩ => po_none.run pins s σ H Q I (Post.okI (u := none) p R rfl)⟩
theorem o_some {a : Ev.E} {l : Expr} (ha : PE X l (tE G xa W n a)) : PO X (some l) (fun s H Q => ∃ (r : List Addr) (e : Ev.Env) (h : AH), RS G xa r h H ∧ REn G xa r H e s ∧ Post G xa (fun _ _ a b => a = b) (Ev.evOpt G.Γ (Ev.callF G.Γ G.T n) (.cons a .nil) e h) r H Q (fun c d => W c d s)) :=
  ⟨fun pins s σ H Q I ⟨r, e, h, R, E, p⟩ => (po_some ha).run pins s σ H Q I (by
    unfold Ev.evOpt at p
    refine tE_bind R E p fun r1 H1 u v h1 X1 R1 E1 k1 p1 => ?_
    split at p1
    case _ i => exact ⟨i, k1, Post.okI (u := some i) p1 R1 rfl⟩
    case _ => exact p1.elim)⟩
theorem c_sl {a lo hi : Ev.E} {l : Expr} {lo' hi' : Option Expr} {p2 : Pos} (O : Okx G xa W n hot N sc X) (ha : PE X l (tE G xa W n a))
    (hl : PO X lo' (fun s H Q => ∃ (r : List Addr) (e : Ev.Env) (h : AH), RS G xa r h H ∧ REn G xa r H e s ∧ Post G xa (fun _ _ a b => a = b) (Ev.evOpt G.Γ (Ev.callF G.Γ G.T n) lo e h) r H Q (fun c d => W c d s)))
    (hh : PO X hi' (fun s H Q => ∃ (r : List Addr) (e : Ev.Env) (h : AH), RS G xa r h H ∧ REn G xa r H e s ∧ Post G xa (fun _ _ a b => a = b) (Ev.evOpt G.Γ (Ev.callF G.Γ G.T n) hi e h) r H Q (fun c d => W c d s))) :
    PE X (.Subscript l (.Slice lo' hi' none p2) pos) (tE G xa W n (.sl a lo hi)) := by
  refine ⟨fun pins s σ H Q I ⟨r, e, h, R, E, p⟩ => (pe_slice (op_sl (xa := xa) O.glo.hK (fun c d => W c d σ)) ha hl hh).run pins s σ H Q I ?_⟩
  unfold evE Ev.evE at p
  refine tE_bind R E p fun r1 H1 u v h1 X1 R1 E1 k1 p1 => ⟨r1, e, h1, R1, E1, ?_⟩
  cases z : Ev.evOpt G.Γ (Ev.callF G.Γ G.T n) lo e h1 with
  | exc c xs h2 => rw [z] at p1; exact p1
  | bad => rw [z] at p1; exact p1
  | ok x h2 =>
    rw [z] at p1
    intro r2 H2 x' X2 R2 ex
    cases (show x = x' from ex)
    have p3 := Post.mono X2 p1
    refine ⟨r2, e, h2, R2, E1.mono X2, ?_⟩
    cases z2 : Ev.evOpt G.Γ (Ev.callF G.Γ G.T n) hi e h2 with
    | exc c xs h3 => simp only [Ev.R.bind] at p3; rw [z2] at p3; exact p3
    | bad => simp only [Ev.R.bind] at p3; rw [z2] at p3; exact p3
    | ok y h3 =>
      simp only [Ev.R.bind] at p3
      rw [z2] at p3
      intro r3 H3 y' X3 R3 ey
      cases (show y = y' from ey)
      exact ⟨r3, h3, u, R3, (k1.mono X2).mono X3, Post.mono X3 p3⟩
theorem c_fld {o : Ev.E} {f : Nat} {y : Str} {l : Expr} (O : Okx G xa W n hot N sc X) (hy : G.an[f]? = some y) (hs : noSuper l = true) (ha : PE X l (tE G xa W n o)) : PE X (.Attribute l y pos) (tE G xa W n (.fld o f)) := by
  have P1 := pe_fld (pos := pos) (f := y) ha (base_of hs)
  have P2 := O.xfr l _ y pos hs ha
  refine PE.imp (PE.or P1 P2) fun s H Q ⟨r, e, h, R, E, p⟩ => ?_
  unfold evE Ev.evE at p
  have left : (∀ u h1, Ev.evE G.Γ (Ev.callF G.Γ G.T n) o e h = .ok u h1 → ∀ c xs, u ≠ .exc c xs) → tFld X.K (tE G xa W n o) y s H Q := fun ne => by
    refine ⟨r, e, h, R, E, ?_⟩
    cases z : evE G n o e h with
    | exc c xs h1 => rw [show Ev.evE G.Γ (Ev.callF G.Γ G.T n) o e h = .exc c xs h1 from z] at p; exact p
    | bad => rw [show Ev.evE G.Γ (Ev.callF G.Γ G.T n) o e h = .bad from z] at p; exact p
    | ok u h1 =>
      rw [show Ev.evE G.Γ (Ev.callF G.Γ G.T n) o e h = .ok u h1 from z] at p
      intro r1 H1 v X1 R1 k1
      have k1' : RU G xa r1 H1 u v := k1
      have p1 := Post.mono X1 p
      cases u with
      | ref m =>
        simp only [Ev.R.bind, Ev.evFld] at p1
        cases z2 : Ev.insAt h1 m with
        | none => rw [z2] at p1; exact p1.elim
        | some cf =>
          obtain ⟨c, fs⟩ := cf
          rw [z2] at p1
          dsimp only at p1
          split at p1
          case isTrue hfl =>
            obtain ⟨a, dx, gs, rfl, _, e1, k2⟩ := R1.insR z2 k1'
            obtain ⟨f1, f2⟩ := O.glo.fl c f hfl
            cases z3 : Ev.lookF fs f with
            | none => rw [z3] at p1; exact p1.elim
            | some w =>
              rw [z3] at p1
              obtain ⟨w', l1, l2⟩ := RFs.look O.glo.an hy k2 z3
              exact ⟨a, G.ca c, dx, gs, w', rfl, e1, f1, f2 y hy, l1, Post.okI (u := w) p1 R1 l2⟩
          case isFalse => exact p1.elim
      | exc c xs => exact absurd rfl (ne _ _ z c xs)
      | _ => exact p1.elim
  cases z : Ev.evE G.Γ (Ev.callF G.Γ G.T n) o e h with
  | exc c xs h1 => exact .inl (left fun u h1 e1 => by rw [z] at e1; cases e1)
  | bad => rw [z] at p; exact p.elim
  | ok u h1 =>
    cases u with
    | exc c xs =>
      refine .inr ⟨r, e, h, R, E, ?_⟩
      rw [z] at p
      rw [show evE G n o e h = .ok (.exc c xs) h1 from z]
      intro r1 H1 v X1 R1 k1
      have p1 := Post.mono X1 p
      obtain ⟨a, dd, fs, ws, e1, rfl, e3, k2, hl, e4⟩ := (show RU G xa r1 H1 (.exc c xs) v from k1)
      simp only [Ev.R.bind, Ev.evFld] at p1
      cases z3 : Ev.fnd f (G.Γ.xf c) xs with
      | none => rw [z3] at p1; exact p1.elim
      | some w =>
        rw [z3] at p1
        have fnd_at : ∀ {as : List Nat} {xs : List U}, Ev.fnd f as xs = some w → ∃ i : Nat, as[i]? = some f ∧ xs[i]? = some w := by
          intro as
          induction as with
          | nil => intro xs q; cases xs <;> cases q
          | cons a as ih =>
            intro xs q
            cases xs with
            | nil => cases q
            | cons x xs =>
              unfold Ev.fnd at q
              split at q
              · rename_i ea
                cases q
                exact ⟨0, by simp [ea], rfl⟩
              · obtain ⟨i, i1, i2⟩ := ih q
                exact ⟨i + 1, by simpa using i1, by simpa using i2⟩
        obtain ⟨i, i1, i2⟩ := fnd_at z3
        obtain ⟨w', j1, j2⟩ := k2.get i2
        obtain ⟨y', y1, y2⟩ := e4 i f w' i1 j1
        rw [hy] at y1
        cases y1
        exact ⟨c, f, a, dd, fs, w', e1, List.mem_of_getElem? i1, hy, rfl, e3, y2, Post.okI (u := w) p1 R1 j2⟩
    | _ => exact .inl (left fun u h1 e1 => by rw [z] at e1; cases e1; intro c xs e2; cases e2)
end
end EvS
/-! EvRv: slices with a step: the whole forward or backward. -/
namespace EvS
open PySem PySem.Spec PyProof.Rows L2
open Ev (U AO AH DK)
section
variable {prog : Program} {w : World} {A : Around} {E : Value → Shared → Prop} {s : Shared}
theorem one_pick (items : Array Value) : slicePick items none none (some 1) = slicePick items none none none := rfl
theorem back_adjust (n : Nat) : Builtin.Slice.sliceAdjust none none (-1) (n : Int) = ((n : Int) - 1, -1) := by
  unfold Builtin.Slice.sliceAdjust
  simp
theorem back_places (n : Nat) : Builtin.Slice.slicePlaces ((n : Int) - 1) (-1) (-1) = n := by
  unfold Builtin.Slice.slicePlaces
  simp
  omega
theorem back_pick (xs : Array Value) : ((List.range xs.size).filterMap fun (m : Nat) => xs[(((xs.size : Int) - 1) + (m : Int) * (-1)).toNat]?).toArray = xs.toList.reverse.toArray := by
  have e : (List.range xs.size).filterMap (fun (m : Nat) => xs[(((xs.size : Int) - 1) + (m : Int) * (-1)).toNat]?) = ((List.range xs.size).map fun k => xs.size - 1 - k).filterMap (xs[·]?) := by
    rw [List.filterMap_map]
    have e2 : ∀ l : List Nat, (∀ k ∈ l, k < xs.size) → l.filterMap (fun (m : Nat) => xs[(((xs.size : Int) - 1) + (m : Int) * (-1)).toNat]?) = l.filterMap ((fun x => xs[x]?) ∘ fun k => xs.size - 1 - k) := by
      intro l
      induction l with
      | nil => intro _; rfl
      | cons k l ih =>
        intro hl
        have hk := hl k (by simp)
        have ek : (((xs.size : Int) - 1) + (k : Int) * (-1)).toNat = xs.size - 1 - k := by omega
        simp only [List.filterMap_cons, Function.comp, ek]
        have := ih fun x hx => hl x (by simp [hx])
        rw [this]
    exact e2 _ fun k hk => List.mem_range.mp hk
  rw [e, PySem.W.krv_range, List.filterMap_reverse, PySem.W.krv_all]
theorem tup_back {t sl : Addr} {items : Array Value} {u : Tok} {Q : Value → Shared → Prop} (ht : IsTup s.heap t items) (hs : s.heap.IsSliceOf sl .none .none (.int (-1) u))
    (h : Q (.ref s.heap.objs.size) { s with heap := s.heap.push { cls := .type "tuple", data := .seq items.toList.reverse.toArray } })
    (hsz : items.size ≤ sizeLine) : wpAny (model prog w) A (getItem (.ref t) (.ref sl)) Q E s := by
  have htake : sizeOk (.seq items.toList.reverse.toArray) := by
    show items.toList.reverse.toArray.size ≤ sizeLine
    rw [List.size_toArray, List.length_reverse, Array.length_toList]; exact hsz
  obtain ⟨os, hos, hcs, hds⟩ := id hs
  have hTs : s.TypeIs (.ref sl) "slice" := ⟨os, hos, hcs⟩
  unfold getItem
  try with_reducible refine wpAny_holding ?_
  first | refine wpAny_bind (wpAny_pure ?_) | skip
  refine wpAny_bind (wpAny_sequenceKey ht.typeIs (by decide) ?_)
  refine wpAny_bind (wpAny_callSpecial?_slot (name := Str.ofString "__getitem__") ht.typeIs PyProof.Rows.slot_tuple_getitem
    (wpAny_call_entry PyProof.Rows.slot_tuple_getitem ht.typeIs entry_tuple_getitem ?_ (args_tuple_getitem _ _)))
  show wpAny _ _ (Builtin.Tuple.tupleItemsOf (.ref t) >>= _) _ _ s
  refine wpAny_bind (tupleItemsOf_ ht ?_)
  refine wpAny_bind (wpAny_typeOf hTs ?_)
  rw [if_pos (by decide)]
  refine wpAny_bind ?_
  · unfold Builtin.Slice.sliceApplied Builtin.Slice.sliceFields
    refine wpAny_bind (wpAny_bind (wpAny_field hos hds (x := .none) rfl (wpAny_bind (wpAny_field hos hds (x := .none) rfl (wpAny_bind (wpAny_field hos hds (x := .int (-1) u) rfl (wpAny_pure ?_)))))))
    refine wpAny_bind (slicePart_int ?_)
    show wpAny _ _ (if ((-1 : Int) == 0) = true then _ else _) _ _ s
    rw [if_neg (by decide)]
    refine wpAny_bind (slicePart_none (wpAny_bind (slicePart_none (wpAny_bind (wpAny_pure ?_)))))
    show wpAny _ _ (match Builtin.Slice.sliceAdjust none none (-1) (items.size : Int) with | (lo, hi) => pure (lo, (-1 : Int), Builtin.Slice.slicePlaces lo hi (-1))) _ _ s
    rw [back_adjust]
    show wpAny _ _ (pure ((items.size : Int) - 1, (-1 : Int), Builtin.Slice.slicePlaces ((items.size : Int) - 1) (-1) (-1))) _ _ s
    rw [back_places]
    refine wpAny_pure ?_
    have hno : ¬ ((((items.size : Int) - 1) == 0 && (-1 : Int) == 1 && items.size == items.size) = true) := by
      intro q
      rw [Bool.and_eq_true, Bool.and_eq_true] at q
      exact absurd (eq_of_beq q.1.2) (by decide)
    show wpAny _ _ (if (((items.size : Int) - 1) == 0 && (-1 : Int) == 1 && items.size == items.size) = true then _ else _) _ _ s
    rw [if_neg hno, back_pick]
    first
      | exact wpAny_bind (m := Builtin.Tuple.tupleExact _) (wpAny_newObj_type (wpAny_pure ⟨_, rfl, wpAny_pure h⟩) htake)
      | exact wpAny_bind (m := Builtin.Tuple.tupleExact _) (wpAny_newObj_type (wpAny_bind (wpAny_pure (wpAny_pure ⟨_, rfl, wpAny_pure h⟩))) htake)
      | exact wpAny_bind (wpAny_bind (m := Builtin.Tuple.tupleExact _) (wpAny_newObj_type (wpAny_pure (wpAny_pure ⟨_, rfl, wpAny_pure h⟩)) htake))
      | exact wpAny_bind (wpAny_bind (m := Builtin.Tuple.tupleExact _) (wpAny_newObj_type (wpAny_pure ⟨_, rfl, wpAny_pure h⟩) htake))
end
section
variable {X : Cx} {e st : Expr} {te ts : TE} {pos p2 : Pos}
/-- the whole of a list again, or backward; a tuple backward -/
def tStep (K : PySem.W.Frag) (te ts : TE) : TE := fun σ H Q => te σ H fun x H1 => ts σ H1 fun k H2 =>
  (∃ a xs, x = .ref a ∧ SqL K H2 a xs ∧ k = .int 1 ∧ ∀ p, H2 p = none → Q (.ref p) (upd H2 p (.lst xs))) ∨
  (∃ a xs, x = .ref a ∧ SqL K H2 a xs ∧ k = .int (-1) ∧ ∀ p, H2 p = none → Q (.ref p) (upd H2 p (.lst xs.reverse))) ∨
  (∃ a xs, x = .ref a ∧ SqT K H2 a xs ∧ k = .int (-1) ∧ ∀ p, H2 p = none → Q (.ref p) (upd H2 p (.tup xs.reverse)))
theorem valsBack {xs : List V} {us : List Value} (r : Vals xs us) : Vals xs.reverse us.reverse := by
  induction r with
  | nil => exact .nil
  | cons a b ih =>
    rw [List.reverse_cons, List.reverse_cons]
    exact ih.append (.cons a .nil)
theorem pe_step (he : PE X e te) (hs : PE X st ts) : PE X (.Subscript e (.Slice none none (some st) p2) pos) (tStep X.K te ts) := by
  refine ⟨fun pins s σ H Q I h => ?_⟩
  refine Subscript_ (thn (he.run pins s σ H _ I h) fun v s1 ⟨x, H1, I1, r1, q1⟩ => ?_)
  refine wpAny_Slice ?_
  rw [evalPart_none]
  refine wpAny_pure ?_
  refine wpAny_pure ?_
  rw [evalPart_some]
  refine thn (hs.run pins s1 σ H1 _ I1 q1) fun vk s3 ⟨k, H3, I3, r3, q3⟩ => ?_
  have I4 : Inv X pins σ H3 { s3 with heap := s3.heap.push { cls := .type "slice", data := .fields #[.none, .none, vk] } } := I3.kept (t' := s3.toks) fun b ob q => Heap.get?_push_of_some _ q
  have hsl : Heap.IsSliceOf (s3.heap.push { cls := .type "slice", data := .fields #[.none, .none, vk] }) s3.heap.objs.size .none .none vk := Heap.IsSliceOf.new ..
  have fin : ∃ T id, typeLookup (.type T) "__getitem__" = pure (some (.builtin id)) ∧ Shared.TypeIs { s3 with heap := s3.heap.push { cls := .type "slice", data := .fields #[.none, .none, vk] } } v T ∧
      wpAny (model X.prog X.w) X.A (getItem v (.ref s3.heap.objs.size)) (EP X pins σ Q) X.xe { s3 with heap := s3.heap.push { cls := .type "slice", data := .fields #[.none, .none, vk] } } := by
    generalize hS : ({ s3 with heap := s3.heap.push { cls := .type "slice", data := .fields #[.none, .none, vk] } } : Shared) = s4 at *
    have hsl4 : s4.heap.IsSliceOf s3.heap.objs.size .none .none vk := by rw [← hS]; exact hsl
    rcases q3 with ⟨a, xs, rfl, hq, rfl, q⟩ | ⟨a, xs, rfl, hq, rfl, q⟩ | ⟨a, xs, rfl, hq, rfl, q⟩
    · cases r1
      obtain ⟨t, rfl⟩ := r3
      obtain ⟨its, r, ht, hz⟩ := I4.list hq
      have hlen := r.length
      refine ⟨"list", _, slot_list_getitem.lookup, ht.isList.typeIs, ?_⟩
      refine wpAny_getItem_list_slice ht.isList hsl4 .none .none (.int 1 t) (by simp) ?_ (by rw [List.size_toArray] <;> omega)
      rw [one_pick, slicePick_cut, ← hlen]
      have ec : cutV xs none none = xs := by
        show (xs.drop 0).take (xs.length - 0) = xs
        rw [List.drop_zero, Nat.sub_zero, List.take_length]
      refine ⟨.ref s4.heap.objs.size, _, I4.laid (t' := s4.toks) (o := .lst (cutV xs none none)) (fun b ob q => Heap.get?_push_of_some _ q) (Nat.le_refl _) ?_, rfl, by rw [ec]; exact q _ (I4.hok.fresh (Nat.le_refl _))⟩
      exact ⟨Nat.le_trans (cutV_length xs none none) hz, _, 0, (r.drop (HT.sIx xs.length 0 none)).take (HT.sIx xs.length xs.length none - HT.sIx xs.length 0 none), Heap.get?_push_size _ rfl⟩
    · cases r1
      obtain ⟨t, rfl⟩ := r3
      obtain ⟨its, r, ht, hz⟩ := I4.list hq
      have hlen := r.length
      refine ⟨"list", _, slot_list_getitem.lookup, ht.isList.typeIs, ?_⟩
      refine wpAny_getItem_list_slice ht.isList hsl4 .none .none (.int (-1) t) (by simp) ?_ (by rw [List.size_toArray] <;> omega)
      rw [PySem.W.krv_pick]
      refine ⟨.ref s4.heap.objs.size, _, I4.laid (t' := s4.toks) (o := .lst xs.reverse) (fun b ob q => Heap.get?_push_of_some _ q) (Nat.le_refl _) ?_, rfl, q _ (I4.hok.fresh (Nat.le_refl _))⟩
      exact ⟨by rw [List.length_reverse]; exact hz, _, 0, valsBack r, Heap.get?_push_size _ rfl⟩
    · cases r1
      obtain ⟨t, rfl⟩ := r3
      obtain ⟨its, r, ht, hz⟩ := I4.tuple hq
      have hlen : its.toArray.size = xs.length := by rw [List.size_toArray]; exact r.length.symm
      refine ⟨"tuple", _, PyProof.Rows.slot_tuple_getitem.lookup, ht.typeIs, ?_⟩
      refine tup_back ht hsl4 ?_ (by rw [hlen]; exact hz)
      refine ⟨.ref s4.heap.objs.size, _, I4.laid (t' := s4.toks) (o := .tup xs.reverse) (fun b ob q => Heap.get?_push_of_some _ q) (Nat.le_refl _) ?_, rfl, q _ (I4.hok.fresh (Nat.le_refl _))⟩
      exact ⟨by rw [List.length_reverse]; exact hz, _, valsBack r, IsTup.new _ _⟩
  obtain ⟨T, id, hT, ht, hg⟩ := fin
  show wpAny (model X.prog X.w) X.A (subscriptTail e (.Slice none none (some st) p2) v (.ref s3.heap.objs.size)) (EP X pins σ Q) X.xe { s3 with heap := s3.heap.push { cls := .type "slice", data := .fields #[.none, .none, vk] } }
  exact tail_any (ops := [v, .ref s3.heap.objs.size]) ht hT hg (by with_unfolding_all rfl)
end
section
variable {G : Sig} {xa : Xa} {W : WX} {n : Nat} {hot : Bool} {N : List Str} {sc : Scope} {X : Cx} {pos : Pos}
theorem RUs.back {r : List Addr} {H : Hp} : ∀ {us : List U} {vs : List V}, RUs G xa r H us vs → RUs G xa r H us.reverse vs.reverse
  | [], _, k => by rw [k.inv0]; exact RUs.nil
  | u :: us, _, k => by
    obtain ⟨v, vs, rfl, k1, k2⟩ := k.inv
    rw [List.reverse_cons, List.reverse_cons]
    exact (RUs.back k2).app (RUs.cons k1 RUs.nil)
theorem c_step {a b : Ev.E} {l st : Expr} {p2 : Pos} (O : Okx G xa W n hot N sc X) (ha : PE X l (tE G xa W n a)) (hb : PE X st (tE G xa W n b)) :
    PE X (.Subscript l (.Slice none none (some st) p2) pos) (tE G xa W n (.bin .step a b)) := by
  refine PE.imp (pe_step ha hb) fun s H Q ⟨r, e, h, R, E, p⟩ => ?_
  unfold evE Ev.evE at p
  refine tE_bind R E p fun r1 H1 u v h1 X1 R1 E1 k1 p1 => tE_bind R1 E1 p1 fun r2 H2 u2 v2 h2 X2 R2 E2 k2 p2 => ?_
  have k1' := k1.mono X2
  cases u2 with
  | int k =>
    cases k2
    cases u with
    | tup xs =>
      simp only [Ev.evBin] at p2
      split at p2
      case isTrue c =>
        subst c
        obtain ⟨q, vs, rfl, t1, k3⟩ := k1'
        exact .inr (.inr ⟨q, vs, rfl, by rw [O.glo.hK]; exact t1.sq, rfl, fun p' hp => p2.newT R2 (RUs.back k3) hp⟩)
      case isFalse => exact p2.elim
    | ref m =>
      simp only [Ev.evBin] at p2
      split at p2
      case _ xs e1 =>
        obtain ⟨q, vs, rfl, t1, k3⟩ := R2.lstL e1 k1'
        split at p2
        case isTrue c =>
          subst c
          exact .inl ⟨q, vs, rfl, by rw [O.glo.hK]; exact t1, rfl, fun p' hp => Post.newL p2 R2 k3 hp⟩
        case isFalse =>
          split at p2
          case isTrue c =>
            subst c
            exact .inr (.inl ⟨q, vs, rfl, by rw [O.glo.hK]; exact t1, rfl, fun p' hp => Post.newL p2 R2 (RUs.back k3) hp⟩)
          case isFalse => exact p2.elim
      case _ => exact p2.elim
    | _ => exact p2.elim
  | _ => cases u <;> exact p2.elim
end
end EvS
/-! EvL: expressions, further: and, or; calls of classes, of methods, of built-ins. -/
namespace EvS
open PySem PySem.Spec PyProof.Rows L2
open Ev (U AO AH DK)

section
variable {G : Sig} {xa : Xa} {W : WX} {n : Nat} {hot : Bool} {N : List Str} {sc : Scope} {X : Cx} {pos : Pos}
theorem an_one {a : Ev.E} {l : Expr} {op : BoolOp} (ha : PE X l (tE G xa W n a)) : PE X (.BoolOp op [l] pos) (tAn G xa W n (.cons a .nil)) := PE.imp (pe_one ha) fun s H Q ⟨r, e, h, R, E, p⟩ => ⟨r, e, h, R, E, p⟩
theorem on_one {a : Ev.E} {l : Expr} {op : BoolOp} (ha : PE X l (tE G xa W n a)) : PE X (.BoolOp op [l] pos) (tOn G xa W n (.cons a .nil)) := PE.imp (pe_one ha) fun s H Q ⟨r, e, h, R, E, p⟩ => ⟨r, e, h, R, E, p⟩
theorem an_cons {a b c : Ev.E} {l q : Expr} {rest : List Expr} (O : Okx G xa W n hot N sc X) (ha : PE X l (tE G xa W n a)) (hb : PE X (.BoolOp .And (q :: rest) pos) (tAn G xa W n (.cons b c))) : PE X (.BoolOp .And (l :: q :: rest) pos) (tAn G xa W n (.cons a (.cons b c))) := by
  refine PE.imp (pe_andT ha hb) fun s H Q ⟨r, e, h, R, E, p⟩ => ?_
  unfold Ev.evAnd at p
  refine tE_bind R E p fun r1 H1 u v h1 X1 R1 E1 k1 p1 => ?_
  obtain ⟨k, ek, p3⟩ := ofO_some p1
  refine ⟨k, tru_rel O.glo.hK R1 ek k1, ?_⟩
  cases k with
  | true => exact iteT ⟨r1, e, h1, R1, E1, p3⟩
  | false => exact iteF (Post.okI (u := u) p3 R1 k1)
theorem on_cons {a b c : Ev.E} {l q : Expr} {rest : List Expr} (O : Okx G xa W n hot N sc X) (ha : PE X l (tE G xa W n a)) (hb : PE X (.BoolOp .Or (q :: rest) pos) (tOn G xa W n (.cons b c))) : PE X (.BoolOp .Or (l :: q :: rest) pos) (tOn G xa W n (.cons a (.cons b c))) := by
  refine PE.imp (pe_orT ha hb) fun s H Q ⟨r, e, h, R, E, p⟩ => ?_
  unfold Ev.evOr at p
  refine tE_bind R E p fun r1 H1 u v h1 X1 R1 E1 k1 p1 => ?_
  obtain ⟨k, ek, p3⟩ := ofO_some p1
  refine ⟨k, tru_rel O.glo.hK R1 ek k1, ?_⟩
  cases k with
  | true => exact iteT (Post.okI (u := u) p3 R1 k1)
  | false => exact iteF ⟨r1, e, h1, R1, E1, p3⟩
theorem ant_one {a : Ev.E} {l : Expr} (ha : PT X l (tT G xa W n a)) : PW X (.BoolOp .And [l] pos) (tAnT G xa W n (.cons a .nil)) := PW.imp (pw_and1 ha) fun s H Q ⟨r, e, h, R, E, p⟩ => ⟨r, e, h, R, E, p⟩
theorem ont_one {a : Ev.E} {l : Expr} (ha : PT X l (tT G xa W n a)) : PW X (.BoolOp .Or [l] pos) (tOnT G xa W n (.cons a .nil)) := PW.imp (pw_or1 ha) fun s H Q ⟨r, e, h, R, E, p⟩ => ⟨r, e, h, R, E, p⟩
/-- what is true, by parts -/
theorem truR_parts {o : Ev.R U} {f : Bool → AH → Ev.R U} (g : U → Bool → AH → Ev.R U) {r : List Addr} {H : Hp} {Q : Bool → Hp → Prop} {W : WK} {d : Bool} (hg : ∀ u k h, g u k h = if k = d then .ok u h else f k h)
    (p : Post G xa rlB (Ev.truR (o.bind fun u h => (Ev.ofO (Ev.tru h u) h).bind fun k h => g u k h)) r H Q W) :
    Post G xa rlB ((Ev.truR o).bind fun k h => if k = d then .ok d h else Ev.truR (f k h)) r H Q W := by
  cases o with
  | exc c xs h => exact p
  | bad => exact p
  | ok u h =>
    simp only [Ev.R.bind, Ev.truR] at p ⊢
    cases z : Ev.tru h u with
    | none => rw [z] at p; exact p
    | some k =>
      rw [z] at p
      simp only [Ev.ofO, hg] at p ⊢
      by_cases c : k = d
      · subst c
        simp only [if_pos] at p ⊢
        rw [z] at p
        exact p
      · simp only [if_neg c] at p ⊢
        exact p
theorem ant_cons {a b c : Ev.E} {l q : Expr} {rest : List Expr} (ha : PT X l (tT G xa W n a)) (hb : PW X (.BoolOp .And (q :: rest) pos) (tAnT G xa W n (.cons b c))) : PW X (.BoolOp .And (l :: q :: rest) pos) (tAnT G xa W n (.cons a (.cons b c))) := by
  refine PW.imp (pw_and ha hb) fun s H Q ⟨r, e, h, R, E, p⟩ => ?_
  unfold Ev.evAnd at p
  have p' := truR_parts (d := false) (f := fun _ h2 => Ev.evAnd G.Γ (Ev.callF G.Γ G.T n) (.cons b c) e h2) (fun u k h2 => match k with
    | true => Ev.evAnd G.Γ (Ev.callF G.Γ G.T n) (.cons b c) e h2
    | false => .ok u h2) (fun u k h => by cases k <;> rfl) p
  refine tT_bind R E p' fun r1 H1 k h1 X1 R1 E1 p1 => ?_
  cases k with
  | true => exact iteT ⟨r1, e, h1, R1, E1, p1⟩
  | false => exact iteF (Post.okI (u := false) p1 R1 rfl)
theorem ont_cons {a b c : Ev.E} {l q : Expr} {rest : List Expr} (ha : PT X l (tT G xa W n a)) (hb : PW X (.BoolOp .Or (q :: rest) pos) (tOnT G xa W n (.cons b c))) : PW X (.BoolOp .Or (l :: q :: rest) pos) (tOnT G xa W n (.cons a (.cons b c))) := by
  refine PW.imp (pw_or ha hb) fun s H Q ⟨r, e, h, R, E, p⟩ => ?_
  unfold Ev.evOr at p
  have p' := truR_parts (d := true) (f := fun _ h2 => Ev.evOr G.Γ (Ev.callF G.Γ G.T n) (.cons b c) e h2) (fun u k h2 => match k with
    | true => .ok u h2
    | false => Ev.evOr G.Γ (Ev.callF G.Γ G.T n) (.cons b c) e h2) (fun u k h => by cases k <;> rfl) p
  refine tT_bind R E p' fun r1 H1 k h1 X1 R1 E1 p1 => ?_
  cases k with
  | true => exact iteT (Post.okI (u := true) p1 R1 rfl)
  | false => exact iteF ⟨r1, e, h1, R1, E1, p1⟩

/-- as many as the def takes -/
theorem call_np {f : Nat} {d : Ev.Fn} {us : List U} {h : AH} {r : List Addr} {H : Hp} {Q : VK} {W : WK} (hd : G.T f = some d) (p : Post G xa (rlU G xa) (Ev.callF G.Γ G.T n f us h) r H Q W) : us.length = d.np := by
  cases n with
  | zero => exact (show False from p).elim
  | succ m =>
    unfold Ev.callF at p
    rw [hd] at p
    dsimp only at p
    split at p
    · assumption
    · exact (show False from p).elim
theorem c_mk {c : Nat} {x : Str} {es : List Expr} {as : Ev.E} {p : Pos} (O : Okx G xa W n false N sc X) (h1 : glbB sc x = true) (h2 : nmB x = true) (h3 : G.gc x = some c) (h4 : (G.Γ.ini c).isSome = true) (hc : chEs G false N as false sc es = true) (ha : PA X es (tEs G xa W n as)) :
    PE X (.Call (.Name x p) es [] pos) (tE G xa W n (.mk c as)) := by
  obtain ⟨d1, _, _⟩ := nmB_ok h2
  obtain ⟨f, hf⟩ := Option.isSome_iff_exists.mp h4
  obtain ⟨⟨d, hd⟩, M, hkC⟩ := O.glo.ini c f hf
  obtain ⟨fdv, ps, F, hb⟩ := O.glo.fn f d hd
  obtain ⟨cm, hr, tk, hx⟩ := O.cold rfl
  subst hx
  refine PE.imp (g_make M hkC F hr (gl_of O h1) (O.glo.gc x c h3) hb (fun σ => passAt tk σ) ha (fun h0 => es_nil hc h0) d1 (es_star hc)) fun s H Q ⟨r, e, h, R, E, p⟩ => ?_
  unfold evE Ev.evE at p
  refine tEs_bind R E p fun r1 H1 us vs h1 X1 R1 E1 k1 p1 => ?_
  intro y dx hy hdx ne
  rw [hf] at p1
  dsimp only at p1
  -- the new instance
  have hy1 : upd H1 dx (.own y) y = none := by rw [upd_ne (Ne.symm ne)]; exact hy
  have R2 : RS G none r1 h1 (upd H1 dx (.own y)) := R1.beside hdx
  have X2 : Ex r1 H1 r1 (upd H1 dx (.own y)) := ex_upd hdx
  have X3 : Ex r1 (upd H1 dx (.own y)) (r1 ++ [y]) (upd (upd H1 dx (.own y)) y (.ins (G.ca c) dx [])) := ex_new hy1
  have R3 : RS G none (r1 ++ [y]) (h1 ++ [.ins c []]) (upd (upd H1 dx (.own y)) y (.ins (G.ca c) dx [])) := R2.new hy1 ⟨dx, [], rfl, .nil⟩
  have kn : RU G none (r1 ++ [y]) (upd (upd H1 dx (.own y)) y (.ins (G.ca c) dx [])) (.ref h1.length) (.ref y) := ⟨y, by rw [← R1.len]; simp, rfl⟩
  have k3 := RUs.cons kn (k1.mono (X2.trans X3))
  have p2 := Post.mono (X2.trans X3) p1
  cases z : Ev.callF G.Γ G.T n f (.ref h1.length :: us) (h1 ++ [.ins c []]) with
  | bad => rw [z] at p2; exact p2.elim
  | exc cc xs h2 =>
    rw [z] at p2
    have q : Post G none (rlU G none) (Ev.callF G.Γ G.T n f (.ref h1.length :: us) (h1 ++ [.ins c []])) (r1 ++ [y]) (upd (upd H1 dx (.own y)) y (.ins (G.ca c) dx [])) (fun v H2 => v = .non ∧ Q (.ref y) H2) (fun c d => W c d s) := by rw [z]; exact p2
    exact ⟨d, hd, by rw [← k3.len]; exact call_np hd q, _, _, _, R3, k3, q⟩
  | ok w h2 =>
    rw [z] at p2
    have q : Post G none (rlU G none) (Ev.callF G.Γ G.T n f (.ref h1.length :: us) (h1 ++ [.ins c []])) (r1 ++ [y]) (upd (upd H1 dx (.own y)) y (.ins (G.ca c) dx [])) (fun v H2 => v = .non ∧ Q (.ref y) H2) (fun c d => W c d s) := by
      rw [z]
      intro r4 H4 v4 X4 R4 k4
      have p3 := Post.mono X4 p2
      simp only [Ev.R.bind] at p3
      cases w with
      | non =>
        refine ⟨k4, ?_⟩
        exact Post.okI (u := U.ref h1.length) p3 R4 (kn.mono X4)
      | _ => exact p3.elim
    exact ⟨d, hd, by rw [← k3.len]; exact call_np hd q, _, _, _, R3, k3, q⟩
/-- the receiver raises -/
theorem g_methX {o : Expr} {ta : TE} {m : Str} {apos : Pos} {es : List Expr} (he : PE X o ta) (hs : es.all noStar = true) (hl : es.length < 30) (hsu : noSuper o = true) (hline : (apos.endLine == pos.line) = true) :
    PE X (.Call (.Attribute o m apos) es [] pos) (fun σ H Q => ta σ H fun _ _ => False) := by
  refine ⟨fun pins s σ H Q I q => ?_⟩
  refine PySem.W.methodCall_KW (pl := plF o X.env) (thn (he.run pins s σ H _ I q) fun u s1 z => ?_) (meth_eval hs hl hsu hline)
  obtain ⟨_, _, _, _, f⟩ := z
  exact f.elim
theorem c_meth {o as : Ev.E} {m : Nat} {y : Str} {l : Expr} {es : List Expr} {apos : Pos} (O : Okx G xa W n false N sc X) (hy : G.an[m]? = some y) (hsu : noSuper l = true) (hline : (apos.endLine == pos.line) = true) (hl : es.length < 30)
    (hc : chEs G false N as false sc es = true) (ho : PE X l (tE G xa W n o)) (ha : PA X es (tEs G xa W n as)) : PE X (.Call (.Attribute l y apos) es [] pos) (tE G xa W n (.meth o m as)) := by
  obtain ⟨cm, hr, tk, hx⟩ := O.cold rfl
  subst hx
  refine ⟨fun pins s σ H Q I ⟨r, e, h, R, E, p⟩ => ?_⟩
  unfold evE Ev.evE at p
  cases z : Ev.evE G.Γ (Ev.callF G.Γ G.T n) o e h with
  | bad => rw [z] at p; exact p.elim
  | exc c xs h1 =>
    refine (g_methX ho (es_star hc) hl hsu hline).run pins s σ H Q I ⟨r, e, h, R, E, ?_⟩
    rw [z] at p
    rw [show evE G n o e h = .exc c xs h1 from z]
    exact p
  | ok u h1 =>
    rw [z] at p
    simp only [Ev.R.bind] at p
    cases u with
    | ref k =>
      dsimp only at p
      cases z2 : Ev.insAt h1 k with
      | none => rw [z2] at p; exact p.elim
      | some cf =>
        obtain ⟨c, fs⟩ := cf
        rw [z2] at p
        dsimp only at p
        split at p
        case _ f z3 z4 =>
          obtain ⟨⟨d, hd⟩, cl, mth⟩ := O.glo.mt c m f z3
          obtain ⟨fdv, ps, F, hb⟩ := O.glo.fn f d hd
          refine (g_meth ho cl (mth y hy) F (hr.mono (Nat.le_succ _)) hb (fun σ => passAt tk σ) ha (fun h0 => es_nil hc h0) (es_star hc) hl hsu hline).run pins s σ H Q I ⟨r, e, h, R, E, ?_⟩
          rw [show evE G n o e h = .ok (.ref k) h1 from z]
          intro r1 H1 v X1 R1 k1
          have k1' : RU G none r1 H1 (.ref k) v := k1
          obtain ⟨a, dx, gs, rfl, _, e1, k2⟩ := R1.insR z2 k1'
          refine ⟨a, dx, gs, rfl, e1, RFs.look0 O.glo.an hy k2 z4, ?_⟩
          refine tEs_bind R1 (E.mono X1) (Post.mono X1 p) fun r2 H2 us vs h2 X2 R2 E2 k3 p2 => ?_
          have k4 := RUs.cons (k1'.mono X2) k3
          exact ⟨d, hd, by rw [← k4.len]; exact call_np hd p2, r2, h2, _, R2, k4, p2⟩
        case _ => exact p.elim
    | _ => exact p.elim
end
end EvS
/-! EvM: built-in calls, methods of built-ins, isinstance, dict displays. -/
namespace EvS
open PySem PySem.Spec PyProof.Rows L2
open Ev (U AO AH DK)

theorem boot_bi {b : Ev.BI} {u : Value} (h : biV b = some u) : bootBuiltins (biN b) = some u := by
  cases b <;> first | (cases h; decide +kernel) | cases h
theorem biN_in {b : Ev.BI} {u : Value} (h : biV b = some u) : biN b ∈ bnames ∧ biN b ≠ "__name__" ∧ (biN b == ("__debug__" : Str)) = false := by
  cases b <;> first | (cases h; decide +kernel) | cases h
section
variable {G : Sig} {xa : Xa} {W : WX} {n : Nat} {hot : Bool} {N : List Str} {sc : Scope} {X : Cx} {pos : Pos}
theorem c_bi {b : Ev.BI} {u : Value} {es : List Expr} {as : Ev.E} {p : Pos} (O : Okx G xa W n false N sc X) (h1 : glbB sc (biN b) = true) (hb : biV b = some u) (h0 : 1 ≤ es.length) (hc : chEs G false N as false sc es = true) (ha : PA X es (tEs G xa W n as)) :
    PE X (.Call (.Name (biN b) p) es [] pos) (tE G xa W n (.bi b as)) := by
  obtain ⟨m1, m2, m3⟩ := biN_in hb
  obtain ⟨cm, _, _, _⟩ := O.cold rfl
  cases es with
  | nil => cases h0
  | cons e es =>
    have hs := es_star hc
    have hs1 : noStar e = true := by simp at hs; exact hs.1
    have hs2 : es.all noStar = true := by simp at hs; simpa using hs.2
    have fin : (∀ W' : WK, PE X (.Call (.Name (biN b) p) (e :: es) [] pos) (tCB (rC G xa (Ev.evBI b) W') (tEs G xa W n as))) → PE X (.Call (.Name (biN b) p) (e :: es) [] pos) (tE G xa W n (.bi b as)) := fun T =>
      ⟨fun pins s σ H Q I ⟨r, en, h, R, E, q⟩ => (T (fun c d => W c d σ)).run pins s σ H Q I (by
        unfold evE Ev.evE at q
        exact tEs_bind R E q fun r1 H1 us vs h1 X1 R1 E1 k1 p1 => ⟨r1, h1, us, R1, k1, p1⟩)⟩
    refine fin fun W' => ?_
    have C := call_bi (xa := xa) O.glo.hK cm W' b u hb
    have hv := boot_bi hb
    cases u with
    | builtin id => exact pe_callB C (gl_of O h1) (O.glo.blt _ m1) hv ha m2 m3 (star_cons hs1) (star_none hs2)
    | type T => exact pe_callTy C (gl_of O h1) (O.glo.blt _ m1) hv ha m2 m3 (star_cons hs1) (star_none hs2)
    | _ => cases b <;> cases hb
/-! int of a flag, of a number, of a text -/
theorem ty_boot {t : Ev.Ty} {x : Str} {p : Pos} (h : tyB t (.Name x p) = true) : (∀ c, t ≠ .cls c) ∧ x = ((tyName t : String) : Str) ∧ bootBuiltins x = some (.type (tyName t)) ∧ x ∈ bnames ∧ x ≠ "__name__" ∧ (x == ("__debug__" : Str)) = false := by
  cases t with
  | cls c => cases h
  | int => have e : x = "int" := by simpa [tyB] using h
           subst e; exact ⟨(fun c z => by cases z), by decide +kernel, by decide +kernel, by decide +kernel, by decide +kernel, by decide +kernel⟩
  | bool => have e : x = "bool" := by simpa [tyB] using h
            subst e; exact ⟨(fun c z => by cases z), by decide +kernel, by decide +kernel, by decide +kernel, by decide +kernel, by decide +kernel⟩
  | str => have e : x = "str" := by simpa [tyB] using h
           subst e; exact ⟨(fun c z => by cases z), by decide +kernel, by decide +kernel, by decide +kernel, by decide +kernel, by decide +kernel⟩
  | list => have e : x = "list" := by simpa [tyB] using h
            subst e; exact ⟨(fun c z => by cases z), by decide +kernel, by decide +kernel, by decide +kernel, by decide +kernel, by decide +kernel⟩
  | tuple => have e : x = "tuple" := by simpa [tyB] using h
             subst e; exact ⟨(fun c z => by cases z), by decide +kernel, by decide +kernel, by decide +kernel, by decide +kernel, by decide +kernel⟩
  | dict => have e : x = "dict" := by simpa [tyB] using h
            subst e; exact ⟨(fun c z => by cases z), by decide +kernel, by decide +kernel, by decide +kernel, by decide +kernel, by decide +kernel⟩
theorem ty_pe {t : Ev.Ty} {x : Str} {p : Pos} (O : Okx G xa W n hot N sc X) (h : tyB t (.Name x p) = true) (hg : glbB sc x = true) : PE X (.Name x p) (tC (tyVv G t)) := by
  obtain ⟨nc, e1, e2, e3, e4, e5⟩ := ty_boot h
  have ev : tyVv G t = .ty (tyName t) := by
    cases t with
    | cls c => exact absurd rfl (nc c)
    | _ => rfl
  rw [ev]
  exact pe_bltn (gl_of O hg) (O.glo.blt _ e3) e2 rfl e4 e5
/-- isinstance(x, T) -/
theorem c_isi1 {a : Ev.E} {t : Ev.Ty} {l c : Expr} {p : Pos} (O : Okx G xa W n hot N sc X) (h1 : glbB sc "isinstance" = true) (hs : noStar l = true) (ha : PE X l (tE G xa W n a)) (hc : PE X c (tC (tyVv G t))) (hs2 : noStar c = true) :
    PE X (.Call (.Name "isinstance" p) [l, c] [] pos) (tE G xa W n (.isi a [t])) := by
  refine PE.imp (pe_callB call_isi (gl_of O h1) (O.glo.blt _ (by decide +kernel)) (by decide +kernel) (pa_cons ha (pa_cons hc pa_nil (star_cons hs2)) (star_cons hs)) (by decide +kernel) (by decide +kernel) (star_cons hs) (star_none (by simp [hs2]))) fun s H Q ⟨r, e, h, R, E, q⟩ => ?_
  unfold evE Ev.evE at q
  refine tE_bind R E q fun r1 H1 u v h1 X1 R1 E1 k1 p1 => ?_
  obtain ⟨b, eb, p2⟩ := ofO_some p1
  unfold Ev.isAny Ev.isAny at eb
  split at eb
  case _ b1 b2 e1 e2 =>
    cases eb
    cases e2
    unfold Ev.isTy at e1
    obtain ⟨k, ek, e3⟩ := Option.bind_eq_some_iff.mp e1
    have ty : TyX G.K H1 v (kdVal G k) := kd_rel O.glo.isi R1 ek k1 fun c hc => by
      subst hc
      cases t with
      | cls d => exact ⟨d, b1, e3⟩
      | _ => cases e3
    refine ⟨v, tyVv G t, kdVal G k, tyVal G t, b1, rfl, ty_cls t, by rw [O.glo.hK]; exact ty, by rw [O.glo.hK]; exact kit_rel O.glo.isi e3, ?_⟩
    rw [Bool.or_false] at p2
    exact Post.okI (u := U.bl b1) p2 R1 rfl
  case _ => cases eb
theorem own_pe {c : Nat} {x : Str} {p : Pos} (O : Okx G xa W n hot N sc X) (hg : glbB sc x = true) (hn : nmB x = true) (hc : G.gc x = some c) : PE X (.Name x p) (tC (tyVv G (.cls c))) :=
  pe_glob (gl_of O hg) (O.glo.gc x c hc) rfl (nmB_ok hn).1
def tyS (G : Sig) : List Ev.Ty → TA
  | [] => tNil
  | t :: ts => tCons (tC (tyVv G t)) (tyS G ts)
theorem tyS_pa (O : Okx G xa W n hot N sc X) : ∀ {ts : List Ev.Ty} {zs : List Expr}, zs.length = ts.length → (ts.zip zs).all (fun p => tyB p.1 p.2 && (match p.2 with | .Name z _ => glbB sc z | _ => false)) = true → PA X zs (tyS G ts) ∧ zs.all noStar = true
  | [], zs, hl, _ => by
    have : zs = [] := List.length_eq_zero_iff.mp hl
    subst this
    exact ⟨pa_nil, rfl⟩
  | t :: ts, zs, hl, h => by
    cases zs with
    | nil => cases hl
    | cons z zs =>
      simp only [List.zip_cons_cons, List.all_cons, Bool.and_eq_true] at h
      obtain ⟨i1, i2⟩ := tyS_pa O (ts := ts) (zs := zs) (by simpa using hl) h.2
      cases z with
      | Name x p => exact ⟨pa_cons (ty_pe O h.1.1 h.1.2) i1 rfl, by simp [noStar, i2]⟩
      | _ => exact absurd h.1.2 Bool.false_ne_true
theorem tyS_run {s : L2.St} : ∀ {ts : List Ev.Ty} {H : Hp} {Q : List V → Hp → Prop}, Q (ts.map (tyVv G)) H → tyS G ts s H Q
  | [], _, _, q => q
  | t :: ts, H, Q, q => tyS_run (ts := ts) (Q := fun vs H' => Q (tyVv G t :: vs) H') q
theorem cls_all : ∀ ts : List Ev.Ty, Paired ClsV (ts.map (tyVv G)) (ts.map (tyVal G))
  | [] => .nil
  | t :: ts => .cons (ty_cls t) (cls_all ts)
theorem isAny_kd {h : AH} {u : U} : ∀ {ts : List Ev.Ty} {b : Bool}, ts ≠ [] → Ev.isAny G.Γ.isb h u ts = some b → ∃ k, Ev.kdOf h u = some k ∧ ∀ t ∈ ts, ∃ b', Ev.kdTy G.Γ.isb k t = some b'
  | [], _, hn, _ => absurd rfl hn
  | t :: ts, b, _, e => by
    unfold Ev.isAny at e
    split at e
    case _ a c e1 e2 =>
      unfold Ev.isTy at e1
      obtain ⟨k, ek, e3⟩ := Option.bind_eq_some_iff.mp e1
      refine ⟨k, ek, fun t' ht => ?_⟩
      rcases List.mem_cons.mp ht with rfl | ht
      · exact ⟨a, e3⟩
      · cases ts with
        | nil => cases ht
        | cons t2 ts =>
          obtain ⟨k', ek', h2⟩ := isAny_kd (ts := t2 :: ts) (by simp) e2
          rw [ek] at ek'
          cases ek'
          exact h2 t' ht
    case _ => cases e
/-- isinstance(x, (T1, T2, ..)) -/
theorem c_isiT {a : Ev.E} {ts : List Ev.Ty} {l : Expr} {zs : List Expr} {k : _} {p p2 : Pos} (O : Okx G xa W n hot N sc X) (h1 : glbB sc "isinstance" = true) (hs : noStar l = true) (ha : PE X l (tE G xa W n a)) (hne : ts ≠ []) (hnc : ∀ t ∈ ts, ∀ c, t ≠ .cls c) (hl : zs.length = ts.length) (hz : zs.length ≤ 8)
    (hc : (ts.zip zs).all (fun p => tyB p.1 p.2 && (match p.2 with | .Name z _ => glbB sc z | _ => false)) = true) : PE X (.Call (.Name "isinstance" p) [l, .Tuple zs k p2] [] pos) (tE G xa W n (.isi a ts)) := by
  obtain ⟨i1, i2⟩ := tyS_pa O hl hc
  refine PE.imp (pe_callB call_isiT (gl_of O h1) (O.glo.blt _ (by decide +kernel)) (by decide +kernel) (pa_cons ha (pa_cons (pe_tup i1) pa_nil rfl) (star_cons hs)) (by decide +kernel) (by decide +kernel) (star_cons hs) rfl) fun s H Q ⟨r, e, h, R, E, q⟩ => ?_
  unfold evE Ev.evE at q
  refine tE_bind R E q fun r1 H1 u v h1 X1 R1 E1 k1 p1 => ?_
  obtain ⟨b, eb, p2⟩ := ofO_some p1
  refine tyS_run ?_
  refine ⟨by rw [List.length_map, ← hl]; exact Nat.le_trans hz (by decide), fun tp hp => ?_⟩
  obtain ⟨kd, ek, hk⟩ := isAny_kd hne eb
  have X2 : Ex r1 H1 r1 (upd H1 tp (.tup (ts.map (tyVv G)))) := ex_upd hp
  have R2 : RS G xa r1 h1 (upd H1 tp (.tup (ts.map (tyVv G)))) := R1.beside hp
  have ty : TyX G.K (upd H1 tp (.tup (ts.map (tyVv G)))) v (kdVal G kd) := kd_rel O.glo.isi R2 ek (k1.mono X2) fun c hc => by
    subst hc
    cases ts with
    | nil => exact absurd rfl hne
    | cons t ts =>
      obtain ⟨b', hb⟩ := hk t List.mem_cons_self
      cases t with
      | cls d => exact absurd rfl (hnc _ List.mem_cons_self d)
      | _ => cases hb
  refine ⟨v, tp, ts.map (tyVv G), kdVal G kd, ts.map (tyVal G), b, rfl, upd_same, cls_all ts, by rw [O.glo.hK]; exact ty, by rw [O.glo.hK]; exact any_rel O.glo.isi ek eb, ?_⟩
  exact Post.mono X2 p2 _ _ (.bl b) (Ex.refl _ _) R2 rfl
/-! methods of lists and texts -/
theorem few_of {es : List Expr} {env : Env} (hs : es.all noStar = true) (hl : es.length < 30) : ((backTo pos (starEach es env)).all (fun x => !x.1) && (backToKw pos (keywordEach [] env)).all (fun x => x.1.isSome)
      && decide (es.length + ([] : List Keyword).length + (if ([] : List Keyword).isEmpty then 0 else 1) < 30)) = true := form_of hs hl
theorem es_one {x : Expr} {as : Ev.E} {e : Ev.Env} {h h' : AH} {us : List U} (hc : chEs G hot N as false sc [x] = true) (z : Ev.evEs G.Γ (Ev.callF G.Γ G.T n) as e h = .ok us h') : ∃ w, us = [w] := by
  have hl := es_len hc z
  match us, hl with
  | [w], _ => exact ⟨w, rfl⟩
/-- the receiver, then one argument -/
theorem bm_bind {b : Ev.BM} {o as : Ev.E} {x : Expr} {r : List Addr} {e : Ev.Env} {h : AH} {s : L2.St} {H : Hp} {Q Q1 : VK} (hc : chEs G hot N as false sc [x] = true) (R : RS G xa r h H) (E : REn G xa r H e s) (q : Post G xa (rlU G xa) (evE G n (.bm b o as) e h) r H Q (fun c d => W c d s))
    (k : ∀ r1 H1 u v h1, RS G xa r1 h1 H1 → RU G xa r1 H1 u v → Ev.rcvB b u h1 = true → (∀ (Q2 : List V → Hp → Prop), (∀ r2 H2 w y h2, Ex r1 H1 r2 H2 → RS G xa r2 h2 H2 → RU G xa r2 H2 w y → Post G xa (rlU G xa) (Ev.evBM b u [w] h2) r2 H2 Q (fun c d => W c d s) → Q2 [y] H2) → tEs G xa W n as s H1 Q2) → Q1 v H1) : tE G xa W n o s H Q1 := by
  unfold evE Ev.evE at q
  refine tE_bind R E q fun r1 H1 u v h1 X1 R1 E1 k1 p1 => ?_
  cases z : Ev.rcvB b u h1 with
  | false => rw [z] at p1; exact p1.elim
  | true =>
    rw [z] at p1
    refine k r1 H1 u v h1 R1 k1 z fun Q2 k2 => ?_
    refine ⟨r1, e, h1, R1, E1, ?_⟩
    cases z2 : evEs G n as e h1 with
    | exc c xs h2 => rw [show Ev.evEs G.Γ (Ev.callF G.Γ G.T n) as e h1 = .exc c xs h2 from z2] at p1; exact p1
    | bad => rw [show Ev.evEs G.Γ (Ev.callF G.Γ G.T n) as e h1 = .bad from z2] at p1; exact p1
    | ok us h2 =>
      rw [show Ev.evEs G.Γ (Ev.callF G.Γ G.T n) as e h1 = .ok us h2 from z2] at p1
      obtain ⟨w, rfl⟩ := es_one hc z2
      intro r2 H2 ys X2 R2 ky
      obtain ⟨y, rfl, k3⟩ := one_rel (show RUs G xa r2 H2 [w] ys from ky)
      exact k2 r2 H2 w y h2 X2 R2 k3 (Post.mono X2 p1)
theorem Post.writeL {m : Nat} {a : Addr} {xs : List U} {vs ws : List V} {r : List Addr} {h : AH} {H : Hp} {Q : VK} {W : WK} (P : Post G xa (rlU G xa) (.ok .non (h.set m (.lst xs))) r H Q W) (R : RS G xa r h H) (hm : r[m]? = some a) (ha : H a = some (.lst ws)) (k : RUs G xa r H xs vs) : Q .non (upd H a (.lst vs)) :=
  P r (upd H a (.lst vs)) .non (ex_write ha trivial) (R.write hm ha trivial ⟨vs, rfl, k.mono (ex_write ha trivial)⟩) rfl
theorem c_append {o as : Ev.E} {l x : Expr} {apos : Pos} (O : Okx G xa W n false N sc X) (hsu : noSuper l = true) (hline : (apos.endLine == pos.line) = true) (hs : noStar x = true) (hc : chEs G false N as false sc [x] = true) (ho : PE X l (tE G xa W n o)) (ha : PA X [x] (tEs G xa W n as)) :
    PE X (.Call (.Attribute l "append" apos) [x] [] pos) (tE G xa W n (.bm .append o as)) := by
  refine PE.imp (pe_bm PySem.F.plainAttrs_list PySem.F.slot_list_append PySem.F.type_list_append mt_append ho ha (base_of hsu) (few_of (by simp [hs]) (by simp)) hline (star_cons hs) rfl) fun s H Q ⟨r, e, h, R, E, q⟩ => ?_
  refine bm_bind hc R E q fun r1 H1 u v h1 R1 k1 rc k2 => ?_
  cases u with
  | ref m =>
    obtain ⟨xs, e1⟩ := Option.isSome_iff_exists.mp (show (Ev.lstAt h1 m).isSome = true from rc)
    obtain ⟨a, vs, rfl, ra, t1, _⟩ := R1.lstR e1 k1
    refine ⟨.inl ⟨rfl, vs, .inl t1⟩, k2 _ fun r2 H2 w y h2 X2 R2 k3 p2 => ?_⟩
    simp only [Ev.evBM] at p2
    split at p2
    case _ xs2 e2 =>
      split at p2
      case isTrue hl =>
        obtain ⟨a', vs2, e3, ra2, t2, k4⟩ := R2.lst e2 (k1.mono X2)
        cases e3
        refine ⟨a, vs2, y, rfl, rfl, t2, ?_, Post.writeL p2 R2 ra2 t2 (k4.app (RUs.cons k3 RUs.nil))⟩
        rw [← k4.len]
        exact lim_lt hl
      case isFalse => exact p2.elim
    case _ => exact p2.elim
  | _ => cases rc
theorem RUs.has {r : List Addr} {H : Hp} : ∀ {us : List U} {vs : List V}, RUs G xa r H us vs → ∀ {m : Nat} {z : V}, vs[m]? = some z → ∃ x, us[m]? = some x ∧ RU G xa r H x z
  | [], _, k, m, z, h => by rw [k.inv0] at h; simp at h
  | u :: us, _, k, 0, z, h => by
    obtain ⟨v, vs, rfl, k1, k2⟩ := k.inv
    exact ⟨u, rfl, by cases (show some v = some z from h); exact k1⟩
  | u :: us, _, k, m + 1, z, h => by
    obtain ⟨v, vs, rfl, k1, k2⟩ := k.inv
    obtain ⟨x, h1, h2⟩ := RUs.has k2 (m := m) (z := z) (by simpa using h)
    exact ⟨x, by simpa using h1, h2⟩
/-- list.index(None), among data -/
theorem mt_index2 (hK : X.K = G.K) (hun : X.A.units + 64 < cLine) : MtR X "list.index" (fun x xs H Q => rIndex X.K x xs H Q ∨ ∃ (a : Addr) (vs : List V) (us : List U) (r : List Addr) (h : AH) (j : Nat), x = V.ref a ∧ xs = [V.non] ∧ SqL X.K H a vs ∧ RS G xa r h H ∧ RUs G xa r H us vs ∧ us.all (Ev.dataU h) = true ∧ us.findIdx? Ev.isNon = some j ∧ Q (.int (j : Nat)) H) := by
  intro pins s σ H x xs v us Q I rx rxs h
  rcases h with h | ⟨a, vs, ws, r, h, j, rfl, rfl, hs, R, k, hd, hj, q⟩
  · exact mt_index pins s σ H x xs v us Q I rx rxs h
  cases rx
  cases rxs with
  | cons ry rt =>
    rename_i uy ut
    cases rt
    cases ry
    obtain ⟨its, rv, ⟨⟨cls, dd, data, sl⟩, n, ho, hc, hdn, hdt⟩, hlen⟩ := I.list hs
    simp only at hc hdt
    subst hc hdt
    obtain ⟨hjw, he, hb⟩ := List.findIdx?_eq_some_iff_getElem.mp hj
    have l1 := k.len
    have l2 := rv.length
    have hsl := sizeLine_eq
    have hjn : j < its.toArray.size := by simp; omega
    have at_ : ∀ (m : Nat) (hm : m < its.toArray.size) (hw : m < ws.length), decide (its.toArray[m] = Value.none) = Ev.isNon ws[m] := by
      intro m hm hw
      obtain ⟨y, g2, g3⟩ := k.get (List.getElem?_eq_getElem hw)
      obtain ⟨w, g4, g5⟩ := rv.get g2
      have e1 : its.toArray[m] = w := by
        obtain ⟨_, e⟩ := List.getElem?_eq_some_iff.mp g4
        simpa using e
      rw [e1]
      exact (data_none hK I R (A := X.A) (by omega) g3 (List.all_eq_true.mp hd _ (List.getElem_mem hw)) g5).2
    refine call_meets PySem.F.slot_list_index ⟨_, ho, rfl⟩ PySem.F.entry_list_index (PySem.F.args_list_index_2 _ _)
      (SeqAt.list_indexAt a its.toArray n dd sl .none (fun y => decide (y = Value.none)) j hjn (by omega) ?_ ?_) ⟨ho, fun u' hu' => (none_any hK I R (by have : X.A.in1.units = X.A.units + 1 := rfl; omega) k hd rv).1 u' (by simpa using hu'), ?_⟩
    · show decide (its.toArray[j] = Value.none) = true
      rw [at_ j hjn hjw]
      exact he
    · intro m hm hmj
      show decide (its.toArray[m] = Value.none) = false
      rw [at_ m hm (by simp at hm; omega)]
      simpa using hb m hmj
    · exact ⟨.int (j : Nat), H, I.tok _, ⟨_, rfl⟩, q⟩
theorem c_index {o as : Ev.E} {l x : Expr} {apos : Pos} (O : Okx G xa W n false N sc X) (hsu : noSuper l = true) (hline : (apos.endLine == pos.line) = true) (hs : noStar x = true) (hc : chEs G false N as false sc [x] = true) (ho : PE X l (tE G xa W n o)) (ha : PA X [x] (tEs G xa W n as)) :
    PE X (.Call (.Attribute l "index" apos) [x] [] pos) (tE G xa W n (.bm .index o as)) := by
  refine PE.imp (pe_bm PySem.F.plainAttrs_list PySem.F.slot_list_index PySem.F.type_list_index (mt_index2 (G := G) (xa := xa) O.glo.hK O.un) ho ha (base_of hsu) (few_of (by simp [hs]) (by simp)) hline (star_cons hs) rfl) fun s H Q ⟨r, e, h, R, E, q⟩ => ?_
  refine bm_bind hc R E q fun r1 H1 u v h1 R1 k1 rc k2 => ?_
  cases u with
  | ref m =>
    obtain ⟨xs, e1⟩ := Option.isSome_iff_exists.mp (show (Ev.lstAt h1 m).isSome = true from rc)
    obtain ⟨a, vs, rfl, t1, _⟩ := R1.lstL e1 k1
    refine ⟨.inl ⟨rfl, vs, by rw [O.glo.hK]; exact t1⟩, k2 _ fun r2 H2 w y h2 X2 R2 k3 p2 => ?_⟩
    simp only [Ev.evBM] at p2
    split at p2
    case _ xs2 e2 =>
      obtain ⟨a', vs2, e3, t2, k4⟩ := R2.lstL e2 (k1.mono X2)
      cases e3
      unfold Ev.firstAt at p2
      split at p2
      case isTrue hf =>
        simp only [Bool.and_eq_true] at hf
        cases z : xs2.findIdx? (fun x => Ev.eqFlat x w) with
        | none => rw [z] at p2; exact p2.elim
        | some j =>
          rw [z] at p2
          obtain ⟨hj, he, hb⟩ := List.findIdx?_eq_some_iff_getElem.mp z
          have g1 : xs2[j]? = some xs2[j] := List.getElem?_eq_getElem hj
          obtain ⟨zv, g2, g3⟩ := k4.get g1
          have fl : ∀ x ∈ xs2, Ev.flatU x = true := List.all_eq_true.mp hf.2
          refine .inl ⟨a, vs2, y, j, zv, rfl, rfl, ?_, flat_rel k3 hf.1, flat_all k4 hf.2, g2, ?_, fun m z' hm hz => ?_, ?_⟩
          · first | exact t2 | (rw [O.glo.hK]; exact t2)
          · rw [flat_eq g3 k3 (fl _ (List.getElem_mem hj)) hf.1]; exact he
          · obtain ⟨x', q1, q2⟩ := RUs.has k4 hz
            obtain ⟨q3, q4⟩ := List.getElem?_eq_some_iff.mp q1
            rw [flat_eq q2 k3 (fl _ (List.mem_of_getElem? q1)) hf.1, ← q4]
            simpa using hb m hm
          · exact p2 r2 H2 _ (Ex.refl _ _) R2 rfl
      case isFalse =>
        split at p2
        case isTrue hf =>
          simp only [Bool.and_eq_true] at hf
          cases z : xs2.findIdx? Ev.isNon with
          | none => rw [z] at p2; exact p2.elim
          | some j =>
            rw [z] at p2
            have ew : w = .non := by
              cases w <;> first | rfl | cases hf.1
            subst ew
            cases k3
            refine .inr ⟨a, vs2, xs2, r2, h2, j, rfl, rfl, ?_, R2, k4, hf.2, z, ?_⟩
            · first | exact t2 | (rw [O.glo.hK]; exact t2)
            · exact p2 r2 H2 _ (Ex.refl _ _) R2 rfl
        case isFalse => exact p2.elim
    case _ => exact p2.elim
  | _ => cases rc
theorem strs_back {r : List Addr} {H : Hp} : ∀ xs : List (List Nat), RUs G xa r H (xs.map U.str) ((xs.map mkS).map V.str)
  | [] => RUs.nil
  | x :: xs => RUs.cons rfl (strs_back xs)
theorem splitS_spl (c : Nat) : ∀ (z acc : List Nat), TL.spl [c] 0 acc z = Ev.splitS c acc z
  | [], acc => by rw [TL.spl_nil]; rfl
  | x :: r, acc => by
    show (if TL.pre [c] (x :: r) = true then acc :: TL.spl [c] ([c].length - 1) [] r else TL.spl [c] 0 (acc ++ [x]) r) = if x = c then acc :: Ev.splitS c [] r else Ev.splitS c (acc ++ [x]) r
    by_cases h : x = c
    · subst h
      rw [if_pos rfl, if_pos (by unfold TL.pre; simp), show [x].length - 1 = 0 from rfl, splitS_spl x r []]
    · rw [if_neg h, if_neg (by unfold TL.pre; simp [h]), splitS_spl c r (acc ++ [x])]
theorem c_split {o as : Ev.E} {l x : Expr} {apos : Pos} (O : Okx G xa W n false N sc X) (hsu : noSuper l = true) (hline : (apos.endLine == pos.line) = true) (hs : noStar x = true) (hc : chEs G false N as false sc [x] = true) (ho : PE X l (tE G xa W n o)) (ha : PA X [x] (tEs G xa W n as)) :
    PE X (.Call (.Attribute l "split" apos) [x] [] pos) (tE G xa W n (.bm .split o as)) := by
  refine PE.imp (pe_bm PySem.F.plainAttrs_str PySem.F.slot_str_split PySem.F.type_str_split mt_split ho ha (base_of hsu) (few_of (by simp [hs]) (by simp)) hline (star_cons hs) rfl) fun s H Q ⟨r, e, h, R, E, q⟩ => ?_
  refine bm_bind hc R E q fun r1 H1 u v h1 R1 k1 rc k2 => ?_
  cases u with
  | str z =>
    cases k1
    refine ⟨rfl, k2 _ fun r2 H2 w y h2 X2 R2 k3 p2 => ?_⟩
    cases w with
    | str y0 =>
      match y0, k3, p2 with
      | [c], k3, p2 =>
        simp only [Ev.evBM] at p2
        split at p2
        case isTrue hl =>
          cases k3
          refine ⟨mkS z, mkS [c], rfl, rfl, by simp [mkS_len], ?_, fun p hp => ?_⟩
          · rw [mkS_len]; exact Nat.le_trans hl.1 (by decide)
          · have e6 : Txt.split (mkS z) (mkS [c]) = (Ev.splitS c [] z).map mkS := by
              rw [← splitS_spl]
              exact SX.split_S (a := z) (b := [c]) (by simp) (by simp [hl.2])
            rw [e6]
            exact Post.newL p2 R2 (strs_back _) hp
        case isFalse => exact p2.elim
      | [], _, p2 => exact p2.elim
      | _ :: _ :: _, _, p2 => exact p2.elim
    | _ => exact p2.elim
  | _ => cases rc
theorem c_extend {o as : Ev.E} {l x : Expr} {apos : Pos} (O : Okx G xa W n false N sc X) (hsu : noSuper l = true) (hline : (apos.endLine == pos.line) = true) (hs : noStar x = true) (hc : chEs G false N as false sc [x] = true) (ho : PE X l (tE G xa W n o)) (ha : PA X [x] (tEs G xa W n as)) :
    PE X (.Call (.Attribute l "extend" apos) [x] [] pos) (tE G xa W n (.bm .extend o as)) := by
  refine PE.imp (pe_bm PySem.F.plainAttrs_list PySem.F.slot_list_extend PySem.F.type_list_extend mt_extend ho ha (base_of hsu) (few_of (by simp [hs]) (by simp)) hline (star_cons hs) rfl) fun s H Q ⟨r, e, h, R, E, q⟩ => ?_
  refine bm_bind hc R E q fun r1 H1 u v h1 R1 k1 rc k2 => ?_
  cases u with
  | ref m =>
    obtain ⟨xs, e1⟩ := Option.isSome_iff_exists.mp (show (Ev.lstAt h1 m).isSome = true from rc)
    obtain ⟨a, vs, rfl, ra, t1, _⟩ := R1.lstR e1 k1
    refine ⟨.inl ⟨rfl, vs, .inl t1⟩, k2 _ fun r2 H2 w y h2 X2 R2 k3 p2 => ?_⟩
    cases w with
    | ref m2 =>
      simp only [Ev.evBM] at p2
      split at p2
      case _ xs2 ys2 e2 e5 =>
        split at p2
        case isTrue hl =>
          obtain ⟨a', vs2, e3, ra2, t2, k4⟩ := R2.lst e2 (k1.mono X2)
          obtain ⟨b', ws2, e6, rb2, t3, k5⟩ := R2.lst e5 k3
          cases e3
          cases e6
          refine ⟨a, b', vs2, ws2, rfl, rfl, t2, t3, ?_, Post.writeL p2 R2 ra2 t2 (k4.app k5)⟩
          rw [← k4.len, ← k5.len]
          exact lim_ok hl
        case isFalse => exact p2.elim
      case _ => exact p2.elim
    | _ => exact p2.elim
  | _ => cases rc
theorem join_rel (z : List Nat) : ∀ xs : List (List Nat), Txt.join (mkS z) (xs.map mkS) = mkS (Ev.joinS z xs) := by
  intro xs
  rw [TL.join_eq]
  induction xs with
  | nil => rfl
  | cons a xs ih =>
    cases xs with
    | nil => rfl
    | cons b xs =>
      show mkS a ++ mkS z ++ Str.join (mkS z) (mkS b :: xs.map mkS) = mkS (a ++ z ++ Ev.joinS z (b :: xs))
      have ih' : Str.join (mkS z) (mkS b :: xs.map mkS) = mkS (Ev.joinS z (b :: xs)) := ih
      rw [ih', mkS_app, mkS_app]
theorem c_join {o as : Ev.E} {l x : Expr} {apos : Pos} (O : Okx G xa W n false N sc X) (hsu : noSuper l = true) (hline : (apos.endLine == pos.line) = true) (hs : noStar x = true) (hc : chEs G false N as false sc [x] = true) (ho : PE X l (tE G xa W n o)) (ha : PA X [x] (tEs G xa W n as)) :
    PE X (.Call (.Attribute l "join" apos) [x] [] pos) (tE G xa W n (.bm .join o as)) := by
  refine PE.imp (pe_bm PySem.F.plainAttrs_str PySem.F.slot_str_join PySem.F.type_str_join mt_join ho ha (base_of hsu) (few_of (by simp [hs]) (by simp)) hline (star_cons hs) rfl) fun s H Q ⟨r, e, h, R, E, q⟩ => ?_
  refine bm_bind hc R E q fun r1 H1 u v h1 R1 k1 rc k2 => ?_
  cases u with
  | str z =>
    cases k1
    refine ⟨rfl, k2 _ fun r2 H2 w y h2 X2 R2 k3 p2 => ?_⟩
    simp only [Ev.evBM] at p2
    split at p2
    case _ xs e1 =>
      obtain ⟨us, e2, e3⟩ := Option.bind_eq_some_iff.mp e1
      obtain ⟨p, vs, rfl, t1, k4⟩ := R2.lstO e2 k3
      rw [strs_rel e3 k4] at t1
      split at p2
      case isTrue hl =>
        refine ⟨mkS z, p, xs.map mkS, rfl, rfl, .inl (by rw [O.glo.hK]; exact t1), ?_, ?_⟩
        · have e5 : ((xs.map mkS).map (·.length)).sum + (xs.map mkS).length * (mkS z).length = (xs.map List.length).sum + xs.length * z.length := by
            simp [mkS_len, Function.comp_def]
          rw [e5]
          exact Nat.le_trans hl (by decide)
        · rw [join_rel]
          exact Post.okI (u := U.str (Ev.joinS z xs)) p2 R2 rfl
      case isFalse => exact p2.elim
    case _ => exact p2.elim
  | _ => cases rc
end
end EvS
/-! EvN: what is walked; comprehensions. -/
namespace EvS
open PySem PySem.Spec PyProof.Rows L2
open Ev (U AO AH DK)

/-- an iterator that gives the items, while what is guarded stands -/
structure ItOk (G : Sig) (xa : Xa) (r0 : List Addr) (H0 : Hp) (t : Ev.Its) (J : It) : Prop where
  go : ∀ i r h H, i < t.items.length → Ex r0 H0 r H → RS G xa r h H → Ev.gdB h t.gd = true → J.go i H
  stop : ∀ r h H, Ex r0 H0 r H → RS G xa r h H → Ev.gdB h t.gd = true → J.stop t.items.length H
  yld : ∀ i u r h H x H', t.items[i]? = some u → Ex r0 H0 r H → RS G xa r h H → Ev.gdB h t.gd = true → J.yld i H x H' → Ex r H r H' ∧ RS G xa r h H' ∧ RU G xa r H' u x
def tI (G : Sig) (xa : Xa) (W : WX) (n : Nat) (x : Ev.E) : TI := fun s H R' => ∃ (r : List Addr) (e : Ev.Env) (h : AH), RS G xa r h H ∧ REn G xa r H e s ∧
  match Ev.evIt G.Γ (Ev.callF G.Γ G.T n) x e h with
  | .ok t h1 => t.lk = none ∧ ∀ r1 H1 J, Ex r H r1 H1 → RS G xa r1 h1 H1 → ItOk G xa r1 H1 t J → R' J H1
  | .exc c xs h1 => ∀ r1 H1 cls d, Ex r H r1 H1 → RS G xa r1 h1 H1 → XR G xa r1 H1 c xs cls d → W cls d s H1
  | .bad => False
theorem PI.imp {X : Cx} {tg e : Expr} {t t' : TI} (h : PI X tg e t) (k : ∀ s H Q, t' s H Q → t s H Q) : PI X tg e t' := ⟨fun pins s σ H Q I q => h.run pins s σ H Q I (k σ H Q q)⟩
theorem PI.or {X : Cx} {tg e : Expr} {t t' : TI} (h : PI X tg e t) (h' : PI X tg e t') : PI X tg e (fun σ H Q => t σ H Q ∨ t' σ H Q) := ⟨fun pins s σ H Q I q => q.elim (h.run pins s σ H Q I) (h'.run pins s σ H Q I)⟩
section
variable {G : Sig} {xa : Xa} {W : WX} {n : Nat} {hot : Bool} {N : List Str} {sc : Scope} {X : Cx} {pos : Pos} {tg : Expr}
theorem gd_one {h : AH} {m : Nat} {xs : List U} (q : Ev.gdB h [(m, xs)] = true) : Ev.lstAt h m = some xs := by
  unfold Ev.gdB Ev.gdB at q
  dsimp only at q
  cases z : Ev.lstAt h m with
  | none => rw [z] at q; cases q
  | some ys =>
    rw [z] at q
    have : Ev.U.sames ys xs = true := by simpa using q
    rw [(Ev.U.sames_iff ys xs).mp this]
theorem gd_two {h : AH} {m k : Nat} {xs ys : List U} (q : Ev.gdB h [(m, xs), (k, ys)] = true) : Ev.lstAt h m = some xs ∧ Ev.lstAt h k = some ys := by
  have q1 : Ev.gdB h [(m, xs)] = true ∧ Ev.gdB h [(k, ys)] = true := by
    simp only [Ev.gdB, Bool.and_eq_true] at q ⊢
    exact ⟨⟨q.1, trivial⟩, q.2⟩
  exact ⟨gd_one q1.1, gd_one q1.2⟩
/-- a walk by what is walked -/
theorem tI_of {x : Ev.E} {a : Ev.E} {f : U → AH → Ev.R Ev.Its} {s : L2.St} {H : Hp} {r : List Addr} {e : Ev.Env} {h : AH} {R' : It → Hp → Prop} {Q1 : VK} (R : RS G xa r h H) (E : REn G xa r H e s)
    (p : match (evE G n a e h).bind f with
      | .ok t h1 => t.lk = none ∧ ∀ r1 H1 J, Ex r H r1 H1 → RS G xa r1 h1 H1 → ItOk G xa r1 H1 t J → R' J H1
      | .exc c xs h1 => ∀ r1 H1 cls d, Ex r H r1 H1 → RS G xa r1 h1 H1 → XR G xa r1 H1 c xs cls d → W cls d s H1
      | .bad => False)
    (k : ∀ u h1, evE G n a e h = .ok u h1 → ∀ r1 H1 v, Ex r H r1 H1 → RS G xa r1 h1 H1 → RU G xa r1 H1 u v → (∀ t h2, f u h1 = .ok t h2 → t.lk = none ∧ ∀ r2 H2 J, Ex r1 H1 r2 H2 → RS G xa r2 h2 H2 → ItOk G xa r2 H2 t J → R' J H2) → Q1 v H1)
    (hf : ∀ u h1, (∃ t h2, f u h1 = .ok t h2) ∨ f u h1 = .bad) : tE G xa W n a s H Q1 := by
  refine ⟨r, e, h, R, E, ?_⟩
  cases z : evE G n a e h with
  | exc c xs h1 => rw [z] at p; exact p
  | bad => rw [z] at p; exact p.elim
  | ok u h1 =>
    rw [z] at p
    simp only [Ev.R.bind] at p
    intro r1 H1 v X1 R1 k1
    refine k u h1 z r1 H1 v X1 R1 k1 fun t h2 ef => ?_
    rw [ef] at p
    exact ⟨p.1, fun r2 H2 J X2 R2 i => p.2 r2 H2 J (X1.trans X2) R2 i⟩
theorem i_seq {a : Ev.E} {l : Expr} (O : Okx G xa W n hot N sc X) (ha : PE X l (tE G xa W n a)) : PI X tg l (tI G xa W n (.iseq a)) := by
  have K := O.glo.hK
  refine PI.imp (PI.or (PI.or (pi_list ha) (pi_tup ha)) (pi_str ha)) fun s H R' ⟨r, e, h, R, E, p⟩ => ?_
  unfold Ev.evIt at p
  have hf : ∀ (u : U) (h1 : AH), (∃ t h2, Ev.itSeq u h1 = .ok t h2) ∨ Ev.itSeq u h1 = .bad := by
    intro u h1
    unfold Ev.itSeq
    cases u with
    | tup xs => exact .inl ⟨_, _, rfl⟩
    | str z => exact .inl ⟨_, _, rfl⟩
    | ref m => dsimp only; cases Ev.lstAt h1 m with
      | some xs => exact .inl ⟨_, _, rfl⟩
      | none => exact .inr rfl
    | _ => exact .inr rfl
  have asList : (∀ u h1, evE G n a e h = .ok u h1 → ∃ m xs, u = .ref m ∧ Ev.lstAt h1 m = some xs) → iList X.K (tE G xa W n a) s H R' := fun sh => by
    refine tI_of (x := .iseq a) R E p (fun u h1 z r1 H1 v X1 R1 k1 k2 => ?_) hf
    obtain ⟨m, xs, rfl, e1⟩ := sh u h1 z
    obtain ⟨a', vs, rfl, t1, _⟩ := R1.lstL e1 k1
    refine ⟨a', rfl, ⟨vs, by rw [K]; exact t1⟩, ?_⟩
    refine (k2 ⟨xs, [(m, xs)], none⟩ h1 (by unfold Ev.itSeq; dsimp only; rw [e1])).2 r1 H1 _ (Ex.refl _ _) R1 ⟨fun i r2 h2 H2 hi X2 R2 g => ?_, fun r2 h2 H2 X2 R2 g => ?_, fun i u r2 h2 H2 x H3 hu X2 R2 g y => ?_⟩
    · obtain ⟨b, ws, eb, t2, k3⟩ := R2.lstL (gd_one g) (k1.mono X2)
      cases eb
      have hl : i < ws.length := by rw [← k3.len]; exact hi
      exact ⟨ws, ws[i], by rw [K]; exact t2, by simp [hl]⟩
    · obtain ⟨b, ws, eb, t2, k3⟩ := R2.lstL (gd_one g) (k1.mono X2)
      cases eb
      exact ⟨ws, by rw [K]; exact t2, by rw [← k3.len]; exact Nat.le_refl _⟩
    · obtain ⟨b, ws, eb, t2, k3⟩ := R2.lstL (gd_one g) (k1.mono X2)
      cases eb
      obtain ⟨rfl, y2⟩ := y
      obtain ⟨w, w1, w2⟩ := k3.get hu
      have : w = x := by
        have := y2 ws (by rw [K]; exact t2)
        rw [w1] at this
        exact Option.some.inj this
      subst this
      exact ⟨Ex.refl _ _, R2, w2⟩
  cases z : evE G n a e h with
  | exc c xs h1 => exact .inl (.inl (asList fun u h1 e1 => by rw [z] at e1; cases e1))
  | bad => rw [show Ev.evE G.Γ (Ev.callF G.Γ G.T n) a e h = .bad from z] at p; exact p.elim
  | ok u h1 =>
    cases u with
    | ref m =>
      refine .inl (.inl (asList fun u h1' e1 => ?_))
      rw [z] at e1
      cases e1
      rw [show Ev.evE G.Γ (Ev.callF G.Γ G.T n) a e h = .ok (.ref m) h1 from z] at p
      simp only [Ev.R.bind, Ev.itSeq] at p
      cases z2 : Ev.lstAt h1 m with
      | none => rw [z2] at p; exact p.elim
      | some xs => exact ⟨m, xs, rfl, z2⟩
    | tup xs =>
      refine .inl (.inr (tI_of (x := .iseq a) R E p (fun u h1' e1 r1 H1 v X1 R1 k1 k2 => ?_) hf))
      rw [z] at e1
      cases e1
      obtain ⟨a', vs, rfl, t1, k3⟩ := k1
      refine ⟨a', rfl, ⟨vs, by rw [K]; exact t1.sq⟩, ?_⟩
      refine (k2 ⟨xs, [], none⟩ h1 rfl).2 r1 H1 _ (Ex.refl _ _) R1 ⟨fun i r2 h2 H2 hi X2 R2 g => ?_, fun r2 h2 H2 X2 R2 g => ?_, fun i u r2 h2 H2 x H3 hu X2 R2 g y => ?_⟩
      · have hl : i < vs.length := by rw [← k3.len]; exact hi
        exact ⟨vs, vs[i], by rw [K]; exact (t1.mono X2).sq, by simp [hl]⟩
      · exact ⟨vs, by rw [K]; exact (t1.mono X2).sq, by rw [← k3.len]; exact Nat.le_refl _⟩
      · obtain ⟨rfl, y2⟩ := y
        obtain ⟨w, w1, w2⟩ := (RUs.mono X2 k3).get hu
        have : w = x := by
          have := y2 vs (by rw [K]; exact (t1.mono X2).sq)
          rw [w1] at this
          exact Option.some.inj this
        subst this
        exact ⟨Ex.refl _ _, R2, w2⟩
    | str zz =>
      refine .inr (tI_of (x := .iseq a) R E p (fun u h1' e1 r1 H1 v X1 R1 k1 k2 => ?_) hf)
      rw [z] at e1
      cases e1
      cases k1
      have sz : (mkS zz).cps.size = zz.length := by simp [mkS]
      refine ⟨mkS zz, rfl, ?_⟩
      refine (k2 ⟨zz.map fun c => .str [c], [], none⟩ h1 rfl).2 r1 H1 _ (Ex.refl _ _) R1 ⟨fun i r2 h2 H2 hi X2 R2 g => ?_, fun r2 h2 H2 X2 R2 g => ?_, fun i u r2 h2 H2 x H3 hu X2 R2 g y => ?_⟩
      · have hi' : i < zz.length := by simpa using hi
        show i < (mkS zz).cps.size
        rw [sz]; exact hi'
      · show (mkS zz).cps.size ≤ (zz.map fun c => U.str [c]).length
        rw [sz, List.length_map]
        exact Nat.le_refl _
      · obtain ⟨rfl, c, y2, rfl⟩ := y
        have h3 : zz[i]? = some c := by
          have : (mkS zz).cps[i]? = zz[i]? := by simp [mkS]
          rw [← this]; exact y2
        have h4 : u = .str [c] := by
          rw [List.getElem?_map, h3] at hu
          exact (Option.some.inj hu).symm
        subst h4
        exact ⟨Ex.refl _ _, R2, rfl⟩
    | _ => rw [show Ev.evE G.Γ (Ev.callF G.Γ G.T n) a e h = .ok _ h1 from z] at p; exact p.elim
end
end EvS
/-! EvEn: the numbered walk through a tuple. -/
namespace EvS
open PySem PySem.Spec PyProof.Rows L2
open Ev (U AO AH DK)

/-- one argument, told by how its own walk begins -/
theorem enum_new1 {v : Value} {o : Obj} {Hh : Heap → Prop} (B : Begins v o Hh) (h0 : Heap) :
    Meets (Builtin.«enumerate.__new__» ⟨[.type "enumerate", v], []⟩) (fun _ R s => Hh s.heap ∧
      R (.ok (.ret (.ref (s.heap.push o).objs.size))) { s with heap := (s.heap.push o).push { cls := .type "enumerate", data := .fields #[.none, .bool false, .ref s.heap.objs.size, rawInt 0, .none, .none] } }) :=
  .of_wp fun prog w A R s h => by
    obtain ⟨hp, g, d, tk, os⟩ := s; obtain ⟨h1, h⟩ := h
    have kd := sub_enumerate
    have q1 : ∀ {A' : Around} {E : Value → Shared → Prop} {Q : Value → Shared → Prop}, Q (.ref hp.objs.size) ⟨hp.push o, g, d, tk, os⟩ → wpAny (model prog w) A' (pyIter v) Q E ⟨hp, g, d, tk, os⟩ :=
      fun q => B.iter prog w _ _ _ _ h1 q
    wp_walk using q1
    refine wpAny_stack_any fun st => wpAny_pure ?_
    split
    · rename_i c _ _ _ _ _
      cases (c == Value.type "enumerate") <;> (wp_walk using q1; exact ⟨_, rfl, h⟩)
    · wp_walk using q1
      exact ⟨_, rfl, h⟩
section
variable {prog : Program} {w : World} {A : Around} {E : Value → Shared → Prop} {s : Shared}
theorem enum_one {v : Value} {o : Obj} {Hh : Heap → Prop} {Q : Value → Shared → Prop} (B : Begins v o Hh) (h1 : Hh s.heap)
    (h : ∀ hn, IsEnum hn (s.heap.objs.size + 1) s.heap.objs.size 0 .none → hn.get? s.heap.objs.size = some o → (∀ b ob, s.heap.get? b = some ob → hn.get? b = some ob) → Q (.ref (s.heap.objs.size + 1)) { s with heap := hn }) :
    wpAny (model prog w) A (call (.type "enumerate") [v]) Q E s := by
  refine callType_new F.called_enumerate (by decide) (F.typeCall_enumerate_1 _) (F.newCall_enumerate_1 _) (fun ob => F.args_object_init_2 ob _) F.entry_enumerate_new (enum_new1 B s.heap) ⟨h1, ?_⟩
  have hz : (s.heap.push o).objs.size = s.heap.objs.size + 1 := Heap.size_push ..
  show _ ∧ _
  rw [hz]
  have he : IsEnum ((s.heap.push o).push { cls := .type "enumerate", data := .fields #[.none, .bool false, .ref s.heap.objs.size, rawInt 0, .none, .none] }) (s.heap.objs.size + 1) s.heap.objs.size 0 .none := by
    have q := Heap.get?_push_size (s.heap.push o) (o := { cls := .type "enumerate", data := .fields #[.none, .bool false, .ref s.heap.objs.size, rawInt 0, .none, .none] }) rfl
    rw [hz] at q; exact q
  exact ⟨⟨_, he, rfl⟩, h _ he (Heap.get?_push_of_some _ (Heap.get?_push_size _ B.free)) fun b ob x => Heap.get?_push_of_some _ (Heap.get?_push_of_some _ x)⟩
end

/-- the tuple at a, each item in a new pair -/
def IteT (K : PySem.W.Frag) (a : Addr) : It :=
  ⟨fun i H => ∃ (xs : List V) (x : V), SqT K H a xs ∧ xs[i]? = some x, fun i H v H' => ∃ T x, v = .ref T ∧ H T = none ∧ H' = upd H T (.tup [.int (i : Nat), x]) ∧ ∀ xs, SqT K H a xs → xs[i]? = some x, fun i H => ∃ xs : List V, SqT K H a xs ∧ xs.length ≤ i⟩
theorem turn_enumT {P : Program} {w : World} {K : PySem.W.Frag} {elts : List Expr} {kk : Nat} {tpos : Pos} (a e it : Addr) (hat : a ≠ it) (hae : a ≠ e) :
    Turn P w K (.Tuple elts kk tpos) (IteT K a) [e, it] e (fun i h => (∃ old, IsEnum h e it ((i : Nat) : Int) old) ∧ h.IsTupleIter it a i ∧ e ≠ it) where
  mem := by simp
  obj := fun i h st b hb => by
    obtain ⟨⟨old, he⟩, ⟨o, ho, hc, hd⟩, _⟩ := st
    have e' : b = e ∨ b = it := by simpa using hb
    rcases e' with z | z
    · rw [z]; exact ⟨_, he, fun v q => nomatch q⟩
    · rw [z]; exact ⟨o, ho, fun v q => by rw [hd] at q; cases q⟩
  keep := fun i h h' st k => let ⟨⟨old, he⟩, hi, hne⟩ := st; ⟨⟨old, k e (by simp) _ he⟩, hi.at fun o q => k it (by simp) o q, hne⟩
  item := by
    intro X hP hw hK hc i pins s σ H E I hf st hg
    subst hP hw hK
    obtain ⟨⟨old, he⟩, hit, hne⟩ := st
    obtain ⟨xs, x, hq, hx⟩ := hg
    obtain ⟨its, rv, p, hz⟩ := I.tuple hq
    have p' : s.heap.IsTuple a its.toArray := p
    obtain ⟨u, hu, ru⟩ := rv.get hx
    have hel : e < s.heap.objs.size := Heap.lt_size he
    have hil : it < s.heap.objs.size := by obtain ⟨_, q, _⟩ := hit; exact Heap.lt_size q
    have hlt : i < its.toArray.size := by
      have := (List.getElem?_eq_some_iff.mp hu).1
      simpa using this
    -- its two objects, and the tuple apart from both
    have D := Draws.tuple (prog := X.prog) (w := X.w) (A := X.A.in1) (I.ok.hd hc) it a hat its.toArray
    refine wpAny_pyNext_enum_itemD D he ⟨hit, p'⟩ hlt hne (by simp [hne, Ne.symm hae]) fun x' h' tk hP ho hs' hT hsz hk => ?_
    have ex : x' = u := by
      have q : its.toArray[i]? = some x' := hP
      rw [show its.toArray[i]? = its[i]? by simp, hu] at q
      exact (Option.some.inj q).symm
    subst ex
    refine ⟨_, rfl, wpAny_letOwnedTupleGo_enum (s := { s with heap := h', toks := tk + 1 }) ho fun h'' he' sb => ?_⟩
    have hT2 : h''.get? s.heap.objs.size = some { cls := .type "tuple", data := .seq #[.int i tk, x'] } := (sb.2 _ (Nat.ne_of_gt hel)).trans hT
    have new : ObjOk X.prog X.w (upd H s.heap.objs.size (.tup [.int (i : Nat), x])) h'' s.heap.objs.size (.tup [.int (i : Nat), x]) :=
      ⟨by show 2 ≤ sizeLine; decide, [.int i tk, x'], .cons ⟨_, rfl⟩ (.cons ru .nil), ⟨_, hT2, rfl, _, rfl⟩⟩
    have I1 : Inv X pins σ (upd H s.heap.objs.size (.tup [.int (i : Nat), x])) { s with heap := h'', toks := tk + 1 } :=
      I.turnedNew (ch := [e, it]) (fun b ob hb q => (sb.2 b (fun z => hb (by simp [z]))).trans (hk b ob (fun z => hb (by simp [z])) (fun z => hb (by simp [z])) q)) hf (Nat.le_refl _) new
    refine ⟨.ref s.heap.objs.size, _, I1, rfl, ⟨_, x, rfl, I.hok.fresh (Nat.le_refl _), rfl, fun ys hy => by rw [I.tuple_inj hy hq]; exact hx⟩, ⟨⟨x', ?_⟩, hs'.1.at fun o q => (sb.2 it (Ne.symm hne)).trans q, hne⟩, fun b hb => ?_⟩
    · have e1 : ((i + 1 : Nat) : Int) = (i : Int) + 1 := by omega
      rw [e1]; exact he'
    · have hb' : b < s.heap.objs.size := by
        have e' : b = e ∨ b = it := by simpa using hb
        rcases e' with z | z
        · rw [z]; exact hel
        · rw [z]; exact hil
      rw [upd_ne (Nat.ne_of_lt hb')]
      exact (hf b hb).1
  done := by
    intro X hP hw hK hc i pins s σ H E I hf st hg
    subst hP hw hK
    obtain ⟨⟨old, he⟩, hit, hne⟩ := st
    obtain ⟨xs, hq, hx⟩ := hg
    obtain ⟨its, rv, p, hz⟩ := I.tuple hq
    have p' : s.heap.IsTuple a its.toArray := p
    obtain ⟨f0, f1, f2, f3, f4, f5⟩ := hf it (by simp)
    have hl := rv.length
    have hT : s.TypeIs (.ref e) "enumerate" := ⟨_, he, rfl⟩
    unfold pyNext
    refine wpAny_bind (wpAny_attempt (wpAny_callSpecial?_slot (name := Str.ofString "__next__") hT F.slot_enumerate_next (wpAny_call_entry F.slot_enumerate_next hT F.entry_enumerate_next ?_ (F.args_enumerate_next_1 _))))
    show wpAny _ _ (field (.ref e) 2 >>= _) _ _ _
    refine wpAny_bind (wpAny_field he rfl (x := .ref it) rfl ?_)
    refine wpAny_bind (wpAny_nextOf_tuple_end (I.ok.hd hc) hit p' (by simp; omega) fun h' x eb hx' => ?_)
    obtain ⟨o, ho, hcl⟩ := hx'
    refine wpAny_bind (wpAny_isInstance (T := "StopIteration") (b := true) ⟨o, ho, hcl⟩ isSubtype_stop ?_)
    exact wpAny_pure ⟨rfl, I.turned (t' := s.toks) (fun b o hb q => eb b o hb q) f0 f1 f3 f4 f5⟩
  self := fun A i s Q E st h => let ⟨⟨_, he⟩, _⟩ := st; wpAny_pyIter_enum he h
def iEnumT (K : PySem.W.Frag) (ta : TA) : TI := fun σ H R => ta σ H fun vs H1 => ∃ a xs, vs = [.ref a] ∧ SqT K H1 a xs ∧ R (IteT K a) H1
theorem pi_enumT {X : Cx} {e : Expr} {ta : TA} {p pos tpos : Pos} {elts : List Expr} {kk : Nat} (hg : Gl X "enumerate") (hm : X.mg "enumerate" = none) (ha : PA X [e] ta) (hs : starEach [e] X.env = [(false, eval e X.env)] := by rfl) :
    PI X (.Tuple elts kk tpos) (.Call (.Name "enumerate" p) [e] [] pos) (iEnumT X.K ta) := by
  refine ⟨fun pins s σ H R I h => ?_⟩
  refine Call_ (ld_blt I hg hm boot_enumerate (PyProof.Rows.callWith_type1 (thn (ha.run pos pins s σ H _ I h) fun us s1 ⟨vs, H1, I1, r1, q1⟩ => ?_) hs rfl))
  obtain ⟨a, xs, ex, hq, q⟩ := q1
  subst ex
  cases r1 with
  | cons r rr =>
    cases rr
    cases r
    obtain ⟨its, rv, p', hz⟩ := I1.tuple hq
    have pt : s1.heap.IsTuple a its.toArray := p'
    have hal : a < s1.heap.objs.size := by obtain ⟨_, z, _⟩ := id pt; exact Heap.lt_size z
    refine enum_one (begins_tuple a its.toArray) pt fun hn he hit hk => wpAny_pyIter_enum he ?_
    have I2 : Inv X pins σ H1 { s1 with heap := hn } := I1.kept (t' := s1.toks) hk
    refine ⟨s1.heap.objs.size + 1, [s1.heap.objs.size + 1, s1.heap.objs.size], _, _, H1, rfl, I2, turn_enumT a (s1.heap.objs.size + 1) s1.heap.objs.size (Nat.ne_of_lt hal) (Nat.ne_of_lt (Nat.lt_succ_of_lt hal)), ⟨⟨.none, he⟩, ⟨_, hit, rfl, rfl⟩, Nat.succ_ne_self _⟩, fun b hb => ?_, q⟩
    have e' : b = s1.heap.objs.size + 1 ∨ b = s1.heap.objs.size := by simpa using hb
    have hle : s1.heap.objs.size ≤ b := by
      rcases e' with z | z
      · rw [z]; exact Nat.le_add_right _ _
      · rw [z]; exact Nat.le_refl _
    exact I1.fpOk hle (I1.hok.fresh hle)
end EvS
/-! EvO: ranges, numbered and paired walks; comprehensions. -/
namespace EvS
open PySem PySem.Spec PyProof.Rows L2
open Ev (U AO AH DK)

theorem numb_at : ∀ {xs : List U} {k i : Nat} {u : U}, (Ev.numbered k xs)[i]? = some u → ∃ x, xs[i]? = some x ∧ u = .tup [.int ((k + i : Nat) : Int), x]
  | [], _, _, _, h => by simp [Ev.numbered] at h
  | x :: xs, k, 0, u, h => ⟨x, rfl, by simpa [Ev.numbered] using h.symm⟩
  | x :: xs, k, i + 1, u, h => by
    obtain ⟨y, h1, h2⟩ := numb_at (xs := xs) (k := k + 1) (i := i) (u := u) (by simpa [Ev.numbered] using h)
    refine ⟨y, by simpa using h1, ?_⟩
    rw [h2, show k + 1 + i = k + (i + 1) by omega]
theorem numb_len : ∀ (xs : List U) (k : Nat), (Ev.numbered k xs).length = xs.length
  | [], _ => rfl
  | x :: xs, k => by simp [Ev.numbered, numb_len xs]
section
variable {G : Sig} {xa : Xa} {W : WX} {n : Nat} {hot : Bool} {N : List Str} {sc : Scope} {X : Cx} {pos : Pos} {tg : Expr}
theorem i_range1 {a : Ev.E} {l : Expr} {p : Pos} (O : Okx G xa W n hot N sc X) (hg : glbB sc "range" = true) (hs : noStar l = true) (ha : PE X l (tE G xa W n a)) : PI X tg (.Call (.Name "range" p) [l] [] pos) (tI G xa W n (.irange1 a)) := by
  refine PI.imp (pi_range1 (gl_of O hg) (O.glo.blt _ (by decide +kernel)) (pa_cons ha pa_nil (star_cons hs)) (star_cons hs)) fun s H R' ⟨r, e, h, R, E, q⟩ => ?_
  unfold Ev.evIt at q
  have hf : ∀ (u : U) (h1 : AH), (∃ t h2, Ev.itR1 u h1 = .ok t h2) ∨ Ev.itR1 u h1 = .bad := by
    intro u h1
    unfold Ev.itR1
    cases u with
    | int j => dsimp only; split; exact .inl ⟨_, _, rfl⟩; exact .inr rfl
    | _ => exact .inr rfl
  refine tI_of (x := .irange1 a) R E q (fun u h1 z r1 H1 v X1 R1 k1 k2 => ?_) hf
  cases u with
  | int j =>
    cases k1
    by_cases c : -(2 ^ 62) ≤ j ∧ j < 2 ^ 62
    · refine ⟨j, rfl, c.1, c.2, ?_⟩
      refine (k2 ⟨(List.range j.toNat).map fun k => .int (k : Nat), [], none⟩ h1 (by unfold Ev.itR1; dsimp only; rw [if_pos c])).2 r1 H1 _ (Ex.refl _ _) R1 ⟨fun i r2 h2 H2 hi X2 R2 g => ?_, fun r2 h2 H2 X2 R2 g => ?_, fun i u r2 h2 H2 x H3 hu X2 R2 g y => ?_⟩
      · show i < j.toNat
        simpa using hi
      · show j.toNat ≤ ((List.range j.toNat).map fun k => U.int ((k : Nat) : Int)).length
        simp
      · obtain ⟨rfl, rfl⟩ := y
        have : u = .int (i : Nat) := by
          rw [List.getElem?_map] at hu
          obtain ⟨k, e1, e2⟩ := Option.map_eq_some_iff.mp hu
          have := (List.getElem?_eq_some_iff.mp e1).2
          simp at this
          rw [← e2, ← this]
        subst this
        refine ⟨Ex.refl _ _, R2, ?_⟩
        show V.int (0 + (i : Int)) = V.int ((i : Nat) : Int)
        rw [Int.zero_add]
    · exfalso
      rw [show Ev.evE G.Γ (Ev.callF G.Γ G.T n) a e h = .ok (.int j) h1 from z] at q
      simp only [Ev.R.bind, Ev.itR1] at q
      rw [if_neg c] at q
      exact q
  | _ =>
    exfalso
    rw [show Ev.evE G.Γ (Ev.callF G.Γ G.T n) a e h = .ok _ h1 from z] at q
    exact q
theorem i_range2 {a b : Ev.E} {l l2 : Expr} {p : Pos} (O : Okx G xa W n hot N sc X) (hg : glbB sc "range" = true) (hs : noStar l = true) (hs2 : noStar l2 = true) (ha : PE X l (tE G xa W n a)) (hb : PE X l2 (tE G xa W n b)) :
    PI X tg (.Call (.Name "range" p) [l, l2] [] pos) (tI G xa W n (.irange2 a b)) := by
  refine PI.imp (pi_range2 (gl_of O hg) (O.glo.blt _ (by decide +kernel)) (pa_cons ha (pa_cons hb pa_nil (star_cons hs2)) (star_cons hs)) (by rw [star_cons hs, star_cons hs2]; rfl) (star_cons hs2)) fun s H R' ⟨r, e, h, R, E, q⟩ => ?_
  unfold Ev.evIt at q
  refine ⟨r, e, h, R, E, ?_⟩
  cases z : Ev.evE G.Γ (Ev.callF G.Γ G.T n) a e h with
  | exc c xs h1 => rw [z] at q; rw [show evE G n a e h = .exc c xs h1 from z]; exact q
  | bad => rw [z] at q; exact q.elim
  | ok u h1 =>
    rw [z] at q
    simp only [Ev.R.bind] at q
    rw [show evE G n a e h = .ok u h1 from z]
    intro r1 H1 v X1 R1 k1
    refine ⟨r1, e, h1, R1, E.mono X1, ?_⟩
    cases z2 : Ev.evE G.Γ (Ev.callF G.Γ G.T n) b e h1 with
    | exc c xs h2 => rw [z2] at q; rw [show evE G n b e h1 = .exc c xs h2 from z2]; exact fun r2 H2 cls d X2 R2 x => q r2 H2 cls d (X1.trans X2) R2 x
    | bad => rw [z2] at q; exact q.elim
    | ok u2 h2 =>
      rw [z2] at q
      rw [show evE G n b e h1 = .ok u2 h2 from z2]
      intro r2 H2 v2 X2 R2 k2
      simp only at q
      unfold Ev.itR2 at q
      split at q
      case _ t h3 ef =>
        split at ef
        case _ i j =>
          split at ef
          case isTrue c =>
            cases ef
            cases k1; cases k2
            refine ⟨i, j, rfl, c, q.2 r2 H2 _ (X1.trans X2) R2 ⟨fun i' r3 h3 H3 hi X3 R3 g => ?_, fun r3 h3 H3 X3 R3 g => ?_, fun i' u r3 h3 H3 x H4 hu X3 R3 g y => ?_⟩⟩
            · show i' < (j - i).toNat
              simpa using hi
            · show (j - i).toNat ≤ ((List.range (j - i).toNat).map fun k => U.int (i + ((k : Nat) : Int))).length
              simp
            · obtain ⟨rfl, rfl⟩ := y
              have : u = .int (i + (i' : Nat)) := by
                rw [List.getElem?_map] at hu
                obtain ⟨k, e1, e2⟩ := Option.map_eq_some_iff.mp hu
                have := (List.getElem?_eq_some_iff.mp e1).2
                simp at this
                rw [← e2, ← this]
              subst this
              exact ⟨Ex.refl _ _, R3, rfl⟩
          case isFalse => cases ef
        case _ => cases ef
      case _ t h3 ef =>
        split at ef
        case _ => split at ef <;> cases ef
        case _ => cases ef
      case _ => exact q.elim
theorem i_enum {a : Ev.E} {l : Expr} {p : Pos} {elts : List Expr} {kk : Nat} {tpos : Pos} (O : Okx G xa W n hot N sc X) (hg : glbB sc "enumerate" = true) (hs : noStar l = true) (ha : PE X l (tE G xa W n a)) :
    PI X (.Tuple elts kk tpos) (.Call (.Name "enumerate" p) [l] [] pos) (tI G xa W n (.ienum a)) := by
  have K := O.glo.hK
  refine PI.imp (PI.or (pi_enum (gl_of O hg) (O.glo.blt _ (by decide +kernel)) (pa_cons ha pa_nil (star_cons hs)) (hs := star_cons hs)) (pi_enumT (gl_of O hg) (O.glo.blt _ (by decide +kernel)) (pa_cons ha pa_nil (star_cons hs)) (hs := star_cons hs))) fun s H R' ⟨r, e, h, R, E, q⟩ => ?_
  unfold Ev.evIt at q
  have hf : ∀ (u : U) (h1 : AH), (∃ t h2, Ev.itEn u h1 = .ok t h2) ∨ Ev.itEn u h1 = .bad := by
    intro u h1
    unfold Ev.itEn
    cases u with
    | tup xs => exact .inl ⟨_, _, rfl⟩
    | ref m => dsimp only; cases Ev.lstAt h1 m with
      | some xs => exact .inl ⟨_, _, rfl⟩
      | none => exact .inr rfl
    | _ => exact .inr rfl
  have asList : (∀ u h1, evE G n a e h = .ok u h1 → ∃ m xs, u = .ref m ∧ Ev.lstAt h1 m = some xs) → iEnum X.K (fun σ H Q => tE G xa W n a σ H fun x H1 => Q [x] H1) s H R' := fun sh => by
    refine tI_of (x := .ienum a) R E q (fun u h1 z r1 H1 v X1 R1 k1 k2 => ?_) hf
    obtain ⟨m, xs, rfl, e1⟩ := sh u h1 z
    obtain ⟨a', vs, rfl, t1, _⟩ := R1.lstL e1 k1
    refine ⟨a', vs, rfl, by rw [K]; exact t1, ?_⟩
    refine (k2 ⟨Ev.numbered 0 xs, [(m, xs)], none⟩ h1 (by unfold Ev.itEn; dsimp only; rw [e1])).2 r1 H1 _ (Ex.refl _ _) R1 ⟨fun i r2 h2 H2 hi X2 R2 g => ?_, fun r2 h2 H2 X2 R2 g => ?_, fun i u r2 h2 H2 x H3 hu X2 R2 g y => ?_⟩
    · obtain ⟨b, ws, eb, t2, k3⟩ := R2.lstL (gd_one g) (k1.mono X2)
      cases eb
      have hl : i < ws.length := by rw [← k3.len]; simpa [numb_len] using hi
      exact ⟨ws, ws[i], by rw [K]; exact t2, by simp [hl]⟩
    · obtain ⟨b, ws, eb, t2, k3⟩ := R2.lstL (gd_one g) (k1.mono X2)
      cases eb
      refine ⟨ws, by rw [K]; exact t2, ?_⟩
      rw [← k3.len]
      simp [numb_len]
    · obtain ⟨b, ws, eb, t2, k3⟩ := R2.lstL (gd_one g) (k1.mono X2)
      cases eb
      obtain ⟨T, x', rfl, hT, rfl, y2⟩ := y
      obtain ⟨ux, g1, rfl⟩ := numb_at hu
      obtain ⟨w, w1, w2⟩ := k3.get g1
      have : w = x' := by
        have := y2 ws (by rw [K]; exact t2)
        rw [w1] at this
        exact Option.some.inj this
      subst this
      have X3 : Ex r2 H2 r2 (upd H2 T (.tup [.int ((i : Nat) : Int), w])) := ex_upd hT
      refine ⟨X3, R2.beside hT, T, _, rfl, .inl upd_same, ?_⟩
      refine RUs.cons ?_ (RUs.cons (w2.mono X3) RUs.nil)
      show V.int ((i : Nat) : Int) = V.int ((0 + i : Nat) : Int)
      rw [Nat.zero_add]
  cases z : evE G n a e h with
  | exc c xs h1 => exact .inl (asList fun u h1 e1 => by rw [z] at e1; cases e1)
  | bad => rw [show Ev.evE G.Γ (Ev.callF G.Γ G.T n) a e h = .bad from z] at q; exact q.elim
  | ok u h1 =>
    cases u with
    | ref m =>
      refine .inl (asList fun u h1' e1 => ?_)
      rw [z] at e1
      cases e1
      rw [show Ev.evE G.Γ (Ev.callF G.Γ G.T n) a e h = .ok (.ref m) h1 from z] at q
      simp only [Ev.R.bind, Ev.itEn] at q
      cases z2 : Ev.lstAt h1 m with
      | none => rw [z2] at q; exact q.elim
      | some xs => exact ⟨m, xs, rfl, z2⟩
    | tup xs =>
      refine .inr (tI_of (x := .ienum a) R E q (fun u h1' e1 r1 H1 v X1 R1 k1 k2 => ?_) hf)
      rw [z] at e1
      cases e1
      obtain ⟨a', vs, rfl, t1, k3⟩ := k1
      refine ⟨a', vs, rfl, by rw [K]; exact t1.sq, ?_⟩
      refine (k2 ⟨Ev.numbered 0 xs, [], none⟩ h1 rfl).2 r1 H1 _ (Ex.refl _ _) R1 ⟨fun i r2 h2 H2 hi X2 R2 g => ?_, fun r2 h2 H2 X2 R2 g => ?_, fun i u r2 h2 H2 x H3 hu X2 R2 g y => ?_⟩
      · have hl : i < vs.length := by rw [← k3.len]; simpa [numb_len] using hi
        exact ⟨vs, vs[i], by rw [K]; exact (t1.mono X2).sq, by simp [hl]⟩
      · refine ⟨vs, by rw [K]; exact (t1.mono X2).sq, ?_⟩
        rw [← k3.len]
        simp [numb_len]
      · obtain ⟨T, x', rfl, hT, rfl, y2⟩ := y
        obtain ⟨ux, g1, rfl⟩ := numb_at hu
        obtain ⟨w, w1, w2⟩ := (RUs.mono X2 k3).get g1
        have : w = x' := by
          have := y2 vs (by rw [K]; exact (t1.mono X2).sq)
          rw [w1] at this
          exact Option.some.inj this
        subst this
        have X3 : Ex r2 H2 r2 (upd H2 T (.tup [.int ((i : Nat) : Int), w])) := ex_upd hT
        refine ⟨X3, R2.beside hT, T, _, rfl, .inl upd_same, ?_⟩
        refine RUs.cons ?_ (RUs.cons (w2.mono X3) RUs.nil)
        show V.int ((i : Nat) : Int) = V.int ((0 + i : Nat) : Int)
        rw [Nat.zero_add]
    | _ => rw [show Ev.evE G.Γ (Ev.callF G.Γ G.T n) a e h = .ok _ h1 from z] at q; exact q.elim
theorem zip_at : ∀ {xs ys : List U} {i : Nat} {u : U}, (List.zipWith (fun x y => U.tup [x, y]) xs ys)[i]? = some u → ∃ x y, xs[i]? = some x ∧ ys[i]? = some y ∧ u = .tup [x, y]
  | [], _, _, _, h => by simp at h
  | _ :: _, [], _, _, h => by simp at h
  | x :: xs, y :: ys, 0, u, h => ⟨x, y, rfl, rfl, by simpa using h.symm⟩
  | x :: xs, y :: ys, i + 1, u, h => by
    obtain ⟨a, b, h1, h2, h3⟩ := zip_at (xs := xs) (ys := ys) (i := i) (u := u) (by simpa using h)
    exact ⟨a, b, by simpa using h1, by simpa using h2, h3⟩
theorem i_zip {a b : Ev.E} {l l2 : Expr} {p : Pos} {elts : List Expr} {kk : Nat} {tpos : Pos} (O : Okx G xa W n hot N sc X) (hg : glbB sc "zip" = true) (hs : noStar l = true) (hs2 : noStar l2 = true) (ha : PE X l (tE G xa W n a)) (hb : PE X l2 (tE G xa W n b)) :
    PI X (.Tuple elts kk tpos) (.Call (.Name "zip" p) [l, l2] [] pos) (tI G xa W n (.izip a b)) := by
  have K := O.glo.hK
  refine PI.imp (RZ.pi_zipA (gl_of O hg) (O.glo.blt _ (by decide +kernel)) (pa_cons ha (pa_cons hb pa_nil (star_cons hs2)) (star_cons hs)) (hs := star_cons hs) (hpl := star_none (by simp [hs2]))) fun s H R' ⟨r, e, h, R, E, q⟩ => ?_
  unfold Ev.evIt at q
  refine ⟨r, e, h, R, E, ?_⟩
  cases z : Ev.evE G.Γ (Ev.callF G.Γ G.T n) a e h with
  | exc c xs h1 => rw [z] at q; rw [show evE G n a e h = .exc c xs h1 from z]; exact q
  | bad => rw [z] at q; exact q.elim
  | ok u h1 =>
    rw [z] at q
    simp only [Ev.R.bind] at q
    rw [show evE G n a e h = .ok u h1 from z]
    intro r1 H1 v X1 R1 k1
    refine ⟨r1, e, h1, R1, E.mono X1, ?_⟩
    cases z2 : Ev.evE G.Γ (Ev.callF G.Γ G.T n) b e h1 with
    | exc c xs h2 => rw [z2] at q; rw [show evE G n b e h1 = .exc c xs h2 from z2]; exact fun r2 H2 cls d X2 R2 x => q r2 H2 cls d (X1.trans X2) R2 x
    | bad => rw [z2] at q; exact q.elim
    | ok u2 h2 =>
      rw [z2] at q
      rw [show evE G n b e h1 = .ok u2 h2 from z2]
      intro r2 H2 v2 X2 R2 k2
      have k1' : RU G xa r2 H2 u v := RU.mono X2 k1
      have k2' : RU G xa r2 H2 u2 v2 := k2
      simp only at q
      have q' : ∀ t, Ev.itZip u u2 h2 = .ok t h2 → ∀ J, ItOk G xa r2 H2 t J → R' J H2 := fun t et J i => by
        rw [et] at q
        exact q.2 r2 H2 J (X1.trans X2) R2 i
      have new : ∀ {r3 : List Addr} {h3 : AH} {H3 : Hp} {T : Addr} {x y : U} {w z : V}, RS G xa r3 h3 H3 → H3 T = none → RU G xa r3 H3 x w → RU G xa r3 H3 y z →
          Ex r3 H3 r3 (upd H3 T (.tup [w, z])) ∧ RS G xa r3 h3 (upd H3 T (.tup [w, z])) ∧ RU G xa r3 (upd H3 T (.tup [w, z])) (.tup [x, y]) (.ref T) := fun {r3 h3 H3 T x y w z} R3 hT kx ky =>
        ⟨ex_upd hT, R3.beside hT, T, _, rfl, .inl upd_same, RUs.cons (kx.mono (ex_upd hT)) (RUs.cons (ky.mono (ex_upd hT)) RUs.nil)⟩
      by_cases ht : ∃ xs ys, u = .tup xs ∧ u2 = .tup ys
      · obtain ⟨xs, ys, rfl, rfl⟩ := ht
        obtain ⟨a1, vs, rfl, t1, k3⟩ := k1'
        obtain ⟨a2, ws, rfl, t2, k4⟩ := k2'
        refine ⟨a1, a2, vs, ws, rfl, .inr ⟨by rw [K]; exact t1.sq, by rw [K]; exact t2.sq, q' _ rfl _ ⟨fun i r3 h3 H3 hi X3 R3 g => ?_, fun r3 h3 H3 X3 R3 g => ?_, fun i u r3 h3 H3 x H4 hu X3 R3 g y => ?_⟩⟩⟩
        · have hi' : i < min xs.length ys.length := by simpa using hi
          have l1 : i < vs.length := by rw [← k3.len]; omega
          have l2 : i < ws.length := by rw [← k4.len]; omega
          exact ⟨vs, ws, vs[i], ws[i], by rw [K]; exact (t1.mono X3).sq, by rw [K]; exact (t2.mono X3).sq, by simp [l1], by simp [l2]⟩
        · refine ⟨vs, ws, by rw [K]; exact (t1.mono X3).sq, by rw [K]; exact (t2.mono X3).sq, ?_⟩
          have : (List.zipWith (fun x y => U.tup [x, y]) xs ys).length = min vs.length ws.length := by simp [k3.len, k4.len]
          dsimp only
          rw [this]
          omega
        · obtain ⟨T, w, z, rfl, hT, rfl, y1, y2⟩ := y
          obtain ⟨x1, x2, g1, g2, rfl⟩ := zip_at hu
          obtain ⟨w', e1, e2⟩ := (k3.mono X3).get g1
          obtain ⟨z', e3, e4⟩ := (k4.mono X3).get g2
          have f1 := y1 vs (by rw [K]; exact (t1.mono X3).sq)
          have f2 := y2 ws (by rw [K]; exact (t2.mono X3).sq)
          rw [e1] at f1
          rw [e3] at f2
          cases f1; cases f2
          exact new R3 hT e2 e4
      · have ⟨m, k, xs, ys, e1, e2, e3, e4⟩ : ∃ m k xs ys, u = .ref m ∧ u2 = .ref k ∧ Ev.lstAt h2 m = some xs ∧ Ev.lstAt h2 k = some ys := by
          unfold Ev.itZip at q
          cases u with
          | tup xs =>
            cases u2 with
            | tup ys => exact absurd ⟨xs, ys, rfl, rfl⟩ ht
            | _ => exact q.elim
          | ref m =>
            cases u2 with
            | ref k =>
              dsimp only at q
              cases e3 : Ev.lstAt h2 m with
              | none => rw [e3] at q; exact q.elim
              | some xs =>
                cases e4 : Ev.lstAt h2 k with
                | none => rw [e3, e4] at q; exact q.elim
                | some ys => exact ⟨m, k, xs, ys, rfl, rfl, e3, e4⟩
            | _ => exact q.elim
          | _ => exact q.elim
        subst e1 e2
        obtain ⟨a1, vs, rfl, t1, k3⟩ := R2.lstL e3 k1'
        obtain ⟨a2, ws, rfl, t2, k4⟩ := R2.lstL e4 k2'
        refine ⟨a1, a2, vs, ws, rfl, .inl ⟨by rw [K]; exact t1, by rw [K]; exact t2, q' ⟨List.zipWith (fun x y => .tup [x, y]) xs ys, [(m, xs), (k, ys)], none⟩ (by unfold Ev.itZip; dsimp only; rw [e3, e4]) _ ⟨fun i r3 h3 H3 hi X3 R3 g => ?_, fun r3 h3 H3 X3 R3 g => ?_, fun i u r3 h3 H3 x H4 hu X3 R3 g y => ?_⟩⟩⟩
        · obtain ⟨g1, g2⟩ := gd_two g
          obtain ⟨_, vs', eq1, t1', k3'⟩ := R3.lstL g1 (k1'.mono X3)
          obtain ⟨_, ws', eq2, t2', k4'⟩ := R3.lstL g2 (k2'.mono X3)
          cases eq1; cases eq2
          have hi' : i < min xs.length ys.length := by simpa using hi
          have l1 : i < vs'.length := by rw [← k3'.len]; omega
          have l2 : i < ws'.length := by rw [← k4'.len]; omega
          exact ⟨vs', ws', vs'[i], ws'[i], by rw [K]; exact t1', by rw [K]; exact t2', by simp [l1], by simp [l2]⟩
        · obtain ⟨g1, g2⟩ := gd_two g
          obtain ⟨_, vs', eq1, t1', k3'⟩ := R3.lstL g1 (k1'.mono X3)
          obtain ⟨_, ws', eq2, t2', k4'⟩ := R3.lstL g2 (k2'.mono X3)
          cases eq1; cases eq2
          refine ⟨vs', ws', by rw [K]; exact t1', by rw [K]; exact t2', ?_⟩
          have : (List.zipWith (fun x y => U.tup [x, y]) xs ys).length = min vs'.length ws'.length := by simp [k3'.len, k4'.len]
          dsimp only
          rw [this]
          omega
        · obtain ⟨g1, g2⟩ := gd_two g
          obtain ⟨_, vs', eq1, t1', k3'⟩ := R3.lstL g1 (k1'.mono X3)
          obtain ⟨_, ws', eq2, t2', k4'⟩ := R3.lstL g2 (k2'.mono X3)
          cases eq1; cases eq2
          obtain ⟨T, w, z, rfl, hT, rfl, y1, y2⟩ := y
          obtain ⟨x1, x2, g3, g4, rfl⟩ := zip_at hu
          obtain ⟨w', e1, e2⟩ := k3'.get g3
          obtain ⟨z', e5, e6⟩ := k4'.get g4
          have f1 := y1 vs' (by rw [K]; exact t1')
          have f2 := y2 ws' (by rw [K]; exact t2')
          rw [e1] at f1
          rw [e5] at f2
          cases f1; cases f2
          exact new R3 hT e2 e6
end
end EvS
/-! EvP: targets; comprehensions. -/
namespace EvS
open PySem PySem.Spec PyProof.Rows L2
open Ev (U AO AH DK)

/-! targets -/
def tP (G : Sig) (xa : Xa) (p : Ev.P) : TG := fun v σ H Q => ∃ (r : List Addr) (e e' : Ev.Env) (h : AH) (u : U), RS G xa r h H ∧ REn G xa r H e σ ∧ RU G xa r H u v ∧ Ev.evP p u e = some e' ∧
  ∀ σ', REn G xa r H e' σ' → (∀ vs : List Nat, (∀ i ∈ slots p, i ∈ vs) → L2.wipe σ' vs = L2.wipe σ vs) → Q σ' H
def tPs (G : Sig) (xa : Xa) (p : Ev.P) : TGs := fun v σ H Q => ∃ (r : List Addr) (e e' : Ev.Env) (h : AH) (u : List U), RS G xa r h H ∧ REn G xa r H e σ ∧ RUs G xa r H u v ∧ Ev.evPs p u e = some e' ∧
  ∀ σ', REn G xa r H e' σ' → (∀ vs : List Nat, (∀ i ∈ slots p, i ∈ vs) → L2.wipe σ' vs = L2.wipe σ vs) → Q σ' H
theorem wipe_set {σ : L2.St} {i : Nat} {x : Option V} : ∀ {vs : List Nat}, i ∈ vs → L2.wipe (σ.set i x) vs = L2.wipe σ vs
  | [], h => by cases h
  | v :: vs, h => by
    unfold L2.wipe
    by_cases hi : i ∈ vs
    · rw [wipe_set hi]
    · have e : i = v := (List.mem_cons.mp h).resolve_right hi
      subst e
      have : ∀ (σ : L2.St) (us : List Nat), i ∉ us → L2.wipe (σ.set i x) us = (L2.wipe σ us).set i x := by
        intro σ us
        induction us with
        | nil => intro _; rfl
        | cons w us ih =>
          intro hn
          have n1 : i ≠ w := fun e => hn (by rw [e]; exact List.mem_cons_self)
          have n2 : i ∉ us := fun m => hn (List.mem_cons_of_mem _ m)
          show (L2.wipe (σ.set i x) us).set w none = ((L2.wipe σ us).set w none).set i x
          rw [ih n2, List.set_comm _ _ n1]
      rw [this σ vs hi, List.set_set]
theorem wipe_wipe {σ : L2.St} : ∀ {us vs : List Nat}, (∀ i ∈ us, i ∈ vs) → L2.wipe (L2.wipe σ us) vs = L2.wipe σ vs
  | [], _, _ => rfl
  | u :: us, vs, h => by
    show L2.wipe ((L2.wipe σ us).set u none) vs = _
    rw [wipe_set (h u List.mem_cons_self)]
    exact wipe_wipe fun i m => h i (List.mem_cons_of_mem _ m)
theorem REn.wipe {G : Sig} {xa : Xa} {r : List Addr} {H : Hp} {e : Ev.Env} {s : L2.St} (h : REn G xa r H e s) : ∀ vs : List Nat, REn G xa r H (Ev.wipe e vs) (L2.wipe s vs)
  | [] => h
  | v :: vs => by
    unfold Ev.wipe L2.wipe
    exact (REn.wipe h vs).unset
theorem assignEach_cons {e : Expr} {es : List Expr} {env : Env} (h : noStar e = true) : (assignEach (e :: es) env).map (·.2) = assign e env :: (assignEach es env).map (·.2) := by
  cases e <;> first | rfl | cases h
theorem assignEach_len {env : Env} : ∀ es : List Expr, (assignEach es env).length = es.length
  | [] => rfl
  | e :: es => by
    have := assignEach_len (env := env) es
    cases e <;> (show (assignEach es env).length + 1 = es.length + 1; rw [this])
theorem assignEach_star {env : Env} : ∀ es : List Expr, es.all noStar = true → (assignEach es env).findIdx? (·.1) = none
  | [], _ => rfl
  | e :: es, h => by
    simp only [List.all_cons, Bool.and_eq_true] at h
    have ih := assignEach_star (env := env) es h.2
    have : assignEach (e :: es) env = (false, assign e env) :: assignEach es env := by
      cases e <;> first | rfl | cases h.1
    rw [this, List.findIdx?_cons, ih]
    rfl
theorem pat_star {N : List Str} {cl : Bool} {sc : Scope} : ∀ (ps : Ev.P) (es : List Expr), chPs N cl sc ps es = true → es.all noStar = true
  | .nil, [], _ => rfl
  | .nil, _ :: _, h => by cases h
  | .cons a b, [], h => by cases h
  | .cons a b, e :: es, h => by
    unfold chPs at h
    simp only [Bool.and_eq_true] at h
    simp only [List.all_cons, Bool.and_eq_true]
    exact ⟨h.1.1, pat_star b es h.2⟩
  | .name _, es, h => by cases es <;> cases h
  | .tup _, es, h => by cases es <;> cases h
theorem pat_us {N : List Str} {cl : Bool} {sc : Scope} : ∀ (ps : Ev.P) (es : List Expr) (us : List U) (e e' : Ev.Env), chPs N cl sc ps es = true → Ev.evPs ps us e = some e' → us.length = es.length
  | .nil, [], [], _, _, _, _ => rfl
  | .nil, [], _ :: _, _, _, _, h => by unfold Ev.evPs at h; cases h
  | .nil, _ :: _, _, _, _, h, _ => by cases h
  | .cons a b, [], _, _, _, h, _ => by cases h
  | .cons a b, _ :: _, [], _, _, _, h => by unfold Ev.evPs at h; cases h
  | .cons a b, y :: es, u :: us, e, e', h, q => by
    unfold chPs at h
    simp only [Bool.and_eq_true] at h
    unfold Ev.evPs at q
    dsimp only at q
    cases z : Ev.evP a u e with
    | none => rw [z] at q; cases q
    | some e2 =>
      rw [z] at q
      rw [List.length_cons, List.length_cons, pat_us b es us e2 e' h.2 q]
  | .name _, es, _, _, _, h, _ => by cases es <;> cases h
  | .tup _, es, _, _, _, h, _ => by cases es <;> cases h
section
variable {G : Sig} {xa : Xa} {W : WX} {n : Nat} {hot : Bool} {N : List Str} {cl : Bool} {sc : Scope} {X : Cx} {pos : Pos}
mutual
theorem p_any (hN : X.N = N) (nd : N.Nodup) (hsc : X.env.scope = sc) (hK : X.K = G.K) (hc : X.calm = true) (hfn : cl = true → ∀ y, X.fn y = true) : ∀ (p : Ev.P) (e : Expr), chP N cl sc p e = true → PG X e (tP G xa p)
  | .name i, e, h => by
    cases e with
    | Name x pos =>
      unfold chP at h
      simp only [Bool.and_eq_true, beq_iff_eq] at h
      refine ⟨fun pins s σ H v u Q I rv ⟨r, e, e', hh, w, R, E, k, ep, q⟩ => ?_⟩
      have hl : Loc X.env.scope x ∧ (X.fn x = true ∨ X.env.scope.names.lookup x = some .local) := by
        cases cl with
        | true => rw [hsc]; exact ⟨lcB_ok (by simpa using h.2), .inl (hfn rfl x)⟩
        | false => rw [hsc]; have := locB_ok (show locB sc x = true by simpa using h.2); exact ⟨.inl this, .inr this⟩
      refine (pg_name (X := X) (by rw [hN]; exact nd) (by rw [hN]; exact h.1) hl.1 hl.2).run pins s σ H v u Q I rv ?_
      unfold Ev.evP at ep
      cases ep
      exact q _ (E.set k) fun vs m => wipe_set (m i (by unfold slots; exact List.mem_singleton.mpr rfl))
    | _ => cases h
  | .tup ps, e, h => by
    cases e with
    | Tuple es kk pos =>
      unfold chP at h
      have hp := p_all hN nd hsc hK hc hfn ps es h
      refine ⟨fun pins s σ H v u Q I rv ⟨r, e, e', hh, w, R, E, k, ep, q⟩ => ?_⟩
      have st := pat_star ps es h
      refine (pg_tup (pos := pos) (k := kk) hc hp (n := es.length) ?_ ?_).run pins s σ H v u Q I rv ?_
      · exact assignEach_len es
      · exact assignEach_star es st
      · cases w with
        | tup us =>
          unfold Ev.evP at ep
          obtain ⟨a, vs, rfl, t1, k2⟩ := k
          have hlen : us.length = es.length := pat_us ps es us e e' h ep
          refine ⟨a, vs, rfl, by rw [hK]; exact t1.sq, by rw [← k2.len]; exact hlen, r, e, e', hh, us, R, E, k2, ep, fun σ' E' m => q σ' E' fun vs hm => m vs fun i hi => hm i (by unfold slots; exact hi)⟩
        | _ => unfold Ev.evP at ep; cases ep
    | _ => cases h
  | .nil, e, h => by cases e <;> cases h
  | .cons _ _, e, h => by cases e <;> cases h
theorem p_all (hN : X.N = N) (nd : N.Nodup) (hsc : X.env.scope = sc) (hK : X.K = G.K) (hc : X.calm = true) (hfn : cl = true → ∀ y, X.fn y = true) : ∀ (p : Ev.P) (es : List Expr), chPs N cl sc p es = true → PGs X es (tPs G xa p)
  | .nil, es, h => by
    cases es with
    | nil =>
      refine ⟨fun pins s σ H v u Q I rv ⟨r, e, e', hh, w, R, E, k, ep, q⟩ => pgs_nil.run pins s σ H v u Q I rv ?_⟩
      cases w with
      | nil =>
        unfold Ev.evPs at ep
        cases ep
        exact ⟨k.inv0, q σ E fun _ _ => rfl⟩
      | cons _ _ => unfold Ev.evPs at ep; cases ep
    | cons _ _ => cases h
  | .cons a b, es, h => by
    cases es with
    | nil => cases h
    | cons e1 es =>
      unfold chPs at h
      simp only [Bool.and_eq_true] at h
      have h1 := p_any hN nd hsc hK hc hfn a e1 h.1.2
      have h2 := p_all hN nd hsc hK hc hfn b es h.2
      refine ⟨fun pins s σ H v u Q I rv ⟨r, e, e', hh, w, R, E, k, ep, q⟩ => (pgs_cons h1 h2 (assignEach_cons h.1.1)).run pins s σ H v u Q I rv ?_⟩
      cases w with
      | nil => unfold Ev.evPs at ep; cases ep
      | cons x us =>
        unfold Ev.evPs at ep
        dsimp only at ep
        obtain ⟨y, ys, rfl, k1, k2⟩ := k.inv
        cases z : Ev.evP a x e with
        | none => rw [z] at ep; cases ep
        | some e2 =>
          rw [z] at ep
          refine ⟨y, ys, rfl, r, e, e2, hh, x, R, E, k1, z, fun σ' E' m1 => ⟨r, e2, e', hh, us, R, E', k2, ep, fun σ2 E2 m2 => q σ2 E2 fun vs hm => ?_⟩⟩
          rw [m2 vs fun i hi => hm i (by unfold slots; exact List.mem_append_right _ hi), m1 vs fun i hi => hm i (by unfold slots; exact List.mem_append_left _ hi)]
  | .name _, es, h => by cases es <;> cases h
  | .tup _, es, h => by cases es <;> cases h
end
end
end EvS
/-! EvSet: the set of a list of texts. -/
namespace EvS
open PySem PySem.Spec PyProof.Rows L2
/-- those met so far, each once -/
def dd (l : List Str) : List Str := l.foldl (fun acc x => if x ∈ acc then acc else acc ++ [x]) []
theorem dd_snoc (l : List Str) (x : Str) : dd (l ++ [x]) = if x ∈ dd l then dd l else dd l ++ [x] := by
  unfold dd
  rw [List.foldl_append]
  rfl
theorem dd_le : ∀ (n : Nat) (l : List Str), l.length = n → (dd l).length ≤ n
  | 0, l, h => by
    rw [List.length_eq_zero_iff.mp h]
    exact Nat.le_refl _
  | n + 1, l, h => by
    have hne : l ≠ [] := fun e => by rw [e] at h; cases h
    have e := List.dropLast_concat_getLast hne
    have h2 : l.dropLast.length = n := by rw [List.length_dropLast, h]; rfl
    have ih := dd_le n l.dropLast h2
    rw [← e, dd_snoc]
    split
    · omega
    · rw [List.length_append]
      simp
      exact ih
theorem take_snoc {α : Type} {l : List α} {i : Nat} {x : α} (h : l[i]? = some x) : l.take (i + 1) = l.take i ++ [x] := by
  rw [List.take_add_one, h]
  rfl
section
variable {prog : Program} {w : World} {A : Around} {R : Result → Shared → Prop} {I : Addr} {fp wr : List Addr} {G : Array GenState → Array GenState → Prop} {n : Nat} {P : Nat → Value → Prop} {St : Nat → Shared → Prop}
/-- what stands in the set behind i turns -/
abbrev Had (prog : Program) (w : World) (h : Heap) (S : Addr) (l : List Str) : Prop := h.SetOf (PySem.strKind prog w) S (fun k => decide (k ∈ dd l)) (dd l).length
theorem Had.at {h h' : Heap} {S : Addr} {l : List Str} (x : Had prog w h S l) (k : ∀ o, h.get? S = some o → h'.get? S = some o) : Had prog w h' S l := by
  obtain ⟨o, es, ep, t, ho, y⟩ := x
  exact ⟨o, es, ep, t, k o ho, y⟩
theorem set_loop (W : WalksS prog w A.in1 I fp wr G n P St) (S : Addr) (hf : S ∉ fp) (xs : List Str) (hn : xs.length = n) (hb : n + 1 < scanBound) (hv : ∀ i v x, P i v → xs[i]? = some x → ∃ t, v = .str x t) :
    ∀ (k i : Nat) (s : Shared), i + k = n → St i s → Had prog w s.heap S (xs.take i) →
      (∀ s', Moved (S :: wr) G s s' → Had prog w s'.heap S xs → R (.ok (.ret .none)) s') → codeAny (model prog w) A (.builtin "set.update.loop" ⟨[.ref S, .ref I], []⟩) R s := by
  have n1 : S ∉ wr := fun z => hf (W.sub _ z)
  have n2 : ∀ b ∈ wr, b ∈ S :: wr := fun b z => List.mem_cons_of_mem _ z
  intro k
  induction k with
  | zero =>
    intro i s e st had fin
    have hi : i = n := e
    subst hi
    refine codeAny_builtin PyProof.Rows.F.entry_set_update_loop ?_
    rw [Around.under_plainId PyProof.Rows.F.plain_set_update_loop _]
    show wpAny _ A.in1 (pyNext (.ref I) >>= _) _ _ s
    refine wpAny_bind (W.done s _ _ st fun z mv => ?_)
    show wpAny _ A.in1 (ret Value.none) _ _ z
    rw [← hn, List.take_length] at had
    exact wpAny_pure (fin z (mv.mono n2) (had.at fun o ho => mv.heap S o n1 ho))
  | succ k ih =>
    intro i s e st had fin
    have hlt : i < n := by omega
    have hx : xs[i]? = some (xs[i]'(by omega)) := List.getElem?_eq_getElem _
    generalize xs[i]'(by omega) = x at hx
    refine codeAny_builtin PyProof.Rows.F.entry_set_update_loop ?_
    rw [Around.under_plainId PyProof.Rows.F.plain_set_update_loop _]
    show wpAny _ A.in1 (pyNext (.ref I) >>= _) _ _ s
    refine wpAny_bind (W.item i s _ _ hlt st fun v z hP st2 mv => ?_)
    obtain ⟨t, rfl⟩ := hv i v x hP hx
    have had2 : Had prog w z.heap S (xs.take i) := had.at fun o ho => mv.heap S o n1 ho
    show wpAny _ A.in1 (holding [Value.str x t] (setAdd S (.str x t)) >>= _) _ _ z
    refine wpAny_bind (wpAny_holding ?_)
    unfold setAdd
    refine wpAny_holding (wpAny_bind ((PySem.strKind prog w).pyHash (k := x) (strKind_is _ _ _ _) ?_))
    have hl : (xs.take i).length = i := by rw [List.length_take]; omega
    have room : (dd (xs.take i)).length + 1 < scanBound := by have := dd_le i _ hl; omega
    refine wpAny_setAddHashed_of (knd := PySem.strKind prog w) (s := { z with toks := z.toks + 1 }) (strKind_is _ _ _ _) rfl had2 room fun h' same had3 => ?_
    have had4 : Had prog w h' S (xs.take (i + 1)) := by
      rw [take_snoc hx]
      refine SetOf_congr had3 (fun k' => ?_) ?_
      · rw [dd_snoc]
        by_cases hm : x ∈ dd (xs.take i)
        · rw [if_pos hm]
          by_cases e2 : k' = x
          · subst e2; simp [hm]
          · simp [e2]
        · rw [if_neg hm]
          simp
      · rw [dd_snoc]
        by_cases hm : x ∈ dd (xs.take i)
        · simp [hm]
        · simp [hm]
    refine wpAny_pure ⟨plainId_quiet PyProof.Rows.F.plain_set_update_loop _, ih (i + 1) _ (by omega) (W.frame _ z _ _ st2 (Nat.le_succ _) fun b hm o he => ?_) had4 fun y mv2 had5 => ?_⟩
    · rw [same.2 b fun q : b = S => hf (by rw [← q]; exact hm)]
      exact he
    · refine fin y (Moved.trans W.gtrans ((mv.mono n2).then_heap (Nat.le_succ _) fun b o hm he => ?_) mv2) had5
      rw [same.2 b fun q : b = S => hm (by rw [q]; exact List.mem_cons_self)]
      exact he
end
section
variable {prog : Program} {w : World} {A : Around} {E : Value → Shared → Prop} {s : Shared}
theorem set_of_texts {l : Addr} {items : Array Value} {xs : List Str} {Q : Value → Shared → Prop} (hh : A.handled = none) (hl : s.heap.IsList l items) (hi : PyProof.Rows.StrsAre items.toList xs) (hb : items.size + 1 < scanBound)
    (h : ∀ (h' : Heap) (tk : Nat), Had prog w h' s.heap.objs.size xs → (∀ b o, b < s.heap.objs.size → s.heap.get? b = some o → h'.get? b = some o) → Q (.ref s.heap.objs.size) { s with heap := h', toks := tk }) :
    wpAny (model prog w) A (call (.type "set") [.ref l]) Q E s := by
  have hlen : xs.length = items.size := by
    have : ∀ {vs : List Value} {ys : List Str}, PyProof.Rows.StrsAre vs ys → ys.length = vs.length := by
      intro vs ys z
      induction z with
      | nil => rfl
      | cons _ _ _ ih => simp [ih]
    have := this hi
    simpa using this
  have old : l < s.heap.objs.size := by
    obtain ⟨o, ho, _⟩ := hl
    exact Heap.lt_size ho
  obtain ⟨c, tl, hmro⟩ := PySem.F.called_set.mro
  have g1 := PySem.F.called_set.made
  have g2 := PySem.F.called_set.sub
  have g3 := PySem.F.called_set.notType
  have g4 := PySem.F.called_set.canCreate
  have g5 := PySem.F.typeCall_set_1 (.ref l)
  refine wpAny_call (codeAny_of_tree ?_)
  show wpAny _ _ (callAny (.type "set") _) _ _ _
  refine wpAny_pure ⟨Code.quiet_builtin _ (by decide +kernel), codeAny_builtin PySem.F.entry_type_call ?_⟩
  rw [Around.under_plain (weight_type_call_type "set" [.ref l] []) rfl]
  repeat (any_goals (first | assumption | wp_step))
  refine codeAny_mono (code_set_new_1 (.ref l) (E := E) (Q₁ := fun z y => ∃ led : Bool, z = .ref s.heap.objs.size ∧ y = { s with heap := s.heap.push { cls := .type "set", dict := none, data := .set #[] 0 (.fresh 0 0 led) } }) fun led => ⟨led, rfl, rfl⟩) fun r s1 hr => ?_
  match r, hr with
  | .ok (.ret obj), hr =>
    obtain ⟨led, rfl, rfl⟩ := hr
    have ns := Heap.get?_push_size s.heap (o := { cls := .type "set", dict := none, data := .set #[] 0 (.fresh 0 0 led) }) rfl
    have nt : Shared.TypeIs { s with heap := s.heap.push { cls := .type "set", dict := none, data := .set #[] 0 (.fresh 0 0 led) } } (.ref s.heap.objs.size) "set" := ⟨_, ns, rfl⟩
    have i1 := PySem.F.called_set.init.lookup
    have i2 := PySem.F.called_set.init.bind (.ref s.heap.objs.size)
    repeat (any_goals (first | assumption | wp_step))
    refine codeAny_mono (codeAny_call_builtin (R := wants (fun r y => r = .none ∧ ∃ h' tk, y = { s with heap := h', toks := tk } ∧ Had prog w h' s.heap.objs.size xs ∧ (∀ b o, b < s.heap.objs.size → s.heap.get? b = some o → h'.get? b = some o)) E)
      PySem.F.called_set.init.plain PySem.F.entry_set_init (check_set_init_1 nt ?_)) fun r2 s2 hr2 => ?_
    · have hl1 : (s.heap.push { cls := .type "set", dict := none, data := .set #[] 0 (.fresh 0 0 led) }).IsList l items := hl.push _
      have ol : ∃ d sl nl, (s.heap.push { cls := .type "set", dict := none, data := .set #[] 0 (.fresh 0 0 led) }).get? l = some { cls := .type "list", dict := d, data := .seq items nl, slots := sl } := by
        obtain ⟨⟨oc, od, dt, sl⟩, ho, hc, nl, hd⟩ := hl1
        simp only at hc hd
        subst hc; subst hd
        exact ⟨od, sl, nl, ho⟩
      obtain ⟨d, sl, nl, hol⟩ := ol
      have b1 := PySem.F.sub_list_set
      have b2 := PySem.F.sub_list_frozenset
      have b3 : (Value.type "list" == Value.type "dict") = false := by decide
      unfold Builtin.«set.__init__» noKeywords Builtin.Frozenset.updateFrom
      generalize hPI : pyIter = PI
      wp_walk
      subst hPI
      refine wpAny_pyIter_list hl1 (wpAny_bind (wpAny_runValue ?_))
      have sz : ∀ o : Obj, (s.heap.push o).objs.size = s.heap.objs.size + 1 := fun o => Heap.size_push ..
      have ne : l ≠ (s.heap.push { cls := .type "set", dict := none, data := .set #[] 0 (.fresh 0 0 led) }).objs.size := by rw [sz]; exact Nat.ne_of_lt (Nat.lt_succ_of_lt old)
      refine set_loop (Walks.list (show A.in1.in1.in1.handled = none by simp [hh]) _ l ne items).toS s.heap.objs.size (by rw [sz]; simp only [List.mem_cons, List.not_mem_nil, or_false, not_or]; exact ⟨Nat.ne_of_lt (Nat.lt_succ_self _), Nat.ne_of_gt old⟩) xs hlen hb (fun i v x hv hx => ?_) items.size 0 _ (Nat.zero_add _) ⟨⟨_, Heap.get?_push_size _ rfl, rfl, rfl⟩, hl1.push _⟩ ?_ ?_
      · obtain ⟨t, e⟩ := SS.strs_at hi i v (by rw [Array.getElem?_toList]; exact hv)
        rw [List.getD_eq_getElem?_getD, hx] at e
        exact ⟨t, e⟩
      · exact SetOf_congr ((PyProof.Rows.setObjOf_fresh (knd := PySem.strKind prog w) led).setOf (Heap.get?_push_of_some _ ns) (by decide)) (fun _ => rfl) rfl
      · intro y mv had
        obtain ⟨h', g', d', tk', os'⟩ := y
        obtain rfl : g' = s.gens := mv.gens
        obtain rfl : d' = s.drawn := mv.drawn
        obtain rfl : os' = s.os := mv.os
        show wpAny _ _ _ _ _ _
        refine wpAny_pure ?_
        show wpAny _ _ (ret Value.none) _ _ _
        refine wpAny_pure ⟨rfl, h', tk', rfl, had, fun b o hbo he => ?_⟩
        refine mv.heap b o ?_ (Heap.get?_push_of_some _ (Heap.get?_push_of_some _ he))
        rw [sz]
        simp only [List.mem_cons, List.not_mem_nil, or_false, not_or]
        exact ⟨Nat.ne_of_lt hbo, Nat.ne_of_lt (Nat.lt_succ_of_lt hbo)⟩
    · match r2, hr2 with
      | .ok (.ret v), hr2 =>
        obtain ⟨rfl, h', tk, rfl, had, keep⟩ := hr2
        repeat (any_goals (first | assumption | wp_step))
        exact h _ _ had keep
      | .error e, hr2 => exact hr2
      | .ok .next, hr2 => exact hr2.elim
      | .ok .brk, hr2 => exact hr2.elim
      | .ok .cont, hr2 => exact hr2.elim
  | .error e, hr => exact hr
  | .ok .next, hr => exact hr.elim
  | .ok .brk, hr => exact hr.elim
  | .ok .cont, hr => exact hr.elim
end
end EvS
/-! EvQ: comprehensions; dicts. -/
namespace EvS
open PySem PySem.Spec PyProof.Rows L2
open Ev (U AO AH DK)

def fls : WX := fun _ _ _ _ => False
section
variable {G : Sig} {xa : Xa} {W : WX} {n : Nat} {hot : Bool} {N : List Str} {sc : Scope} {X : Cx} {pos : Pos}
/-- where no exception is at hand, a field of one is not read -/
theorem xf_none (e : Expr) (te : TE) (y : Str) (pos : Pos) (hs : noSuper e = true) (he : PE X e te) : PE X (.Attribute e y pos) (fun σ H Q => te σ H fun x H1 => ∃ (c f : Nat) (a dd : Addr) (fs : List (Str × V)) (v : V), (none : Xa) = some (a, .ref (G.ca c), some dd) ∧ f ∈ G.Γ.xf c ∧ G.an[f]? = some y ∧ x = .ref a ∧ H1 dd = some (.xd fs) ∧ fs.lookup y = some v ∧ Q v H1) := by
  refine ⟨fun pins s σ H Q I h => attr_of (base_of hs) (thn (he.run pins s σ H _ I h) fun u s1 ⟨x, H1, I1, r1, q⟩ => ?_)⟩
  obtain ⟨_, _, _, _, _, _, q, _⟩ := q
  cases q
theorem Glo.blk (O : Glo G n X) {s : Shared} {H : Hp} {scope : Scope} {ce : Env} {fp : List Addr} : Glo G n (X.blk s H scope ce fp) := ⟨O.hK, O.fn, O.gf, O.gc, O.gk, O.blt, O.ini, O.mt, O.fl, O.an, O.isi, O.kd⟩
theorem Okx.blk (O : Okx G xa W n false N sc X) (scope : Scope) (s : Shared) (H : Hp) (C : Addr) (cl : List (Str × Addr)) (fp : List Addr) : Okx G none fls n false N (relS scope sc) (X.blk s H scope (compEnvC scope cl C X.env) fp) := by
  obtain ⟨h1, h2, h3, h4⟩ := O.cold rfl
  refine ⟨O.glo.blk, O.hN, O.nd, ?_, O.un, fun _ => ⟨h1, h2, takes0, rfl⟩, fun e te y pos hs he => xf_none e te y pos hs he⟩
  show relS scope X.env.scope = _
  rw [O.hsc]
def tC (G : Sig) (xa : Xa) (W : WX) (n : Nat) (c : Ev.E) : TT := fun s H Q => ∃ (r : List Addr) (e : Ev.Env) (h : AH), RS G xa r h H ∧ REn G xa r H e s ∧ Post G xa rlB (Ev.evC G.Γ (Ev.callF G.Γ G.T n) c e h) r H Q (fun c d => W c d s)
theorem tc_nil : PTs X [] (tC G xa W n .nil) := by
  refine ⟨fun pins s σ H Q I ⟨r, e, h, R, E, p⟩ => pts_nil.run pins s σ H Q I ?_⟩
  unfold Ev.evC at p
  exact Post.okI (u := true) p R rfl
theorem tc_one {t : Ev.E} {l : Expr} (ht : PT X l (tT G xa W n t)) : PTs X [l] (tC G xa W n (.cons t .nil)) := by
  refine ⟨fun pins s σ H Q I ⟨r, e, h, R, E, p⟩ => (pts_one ht).run pins s σ H Q I ⟨r, e, h, R, E, ?_⟩⟩
  unfold Ev.evC at p
  exact p
/-- one turn of a comprehension -/
def lcF (G : Sig) (n : Nat) (a : Ev.E) (p : Ev.P) (c : Ev.E) (e0 : Ev.Env) (u : U) (h2 : AH) : Ev.R (Option U) := match Ev.evP p u e0 with
  | some e' => (Ev.evC G.Γ (Ev.callF G.Γ G.T n) c e' h2).bind fun k h3 => match k with
    | true => (Ev.evE G.Γ (Ev.callF G.Γ G.T n) a e' h3).bind fun v h4 => .ok (some v) h4
    | false => .ok none h3
  | none => .bad
theorem lc_walk {a : Ev.E} {p : Ev.P} {c : Ev.E} {own : List Nat} {e : Ev.Env} {σ : L2.St} {t : Ev.Its} {J : It} {r1 : List Addr} {H1 : Hp} {h1 h2 : AH} {D : Addr} {Q : VK}
    (R1 : RS G xa r1 h1 H1) (E1 : REn G xa r1 H1 e σ) (J1 : ItOk G xa r1 H1 t J) (hD : H1 D = none) (hp : ∀ i ∈ slots p, i ∈ own)
    (ev : Ev.lcL t.gd h1.length (lcF G n a p c (Ev.wipe e own)) t.items (h1 ++ [.lst []]) = .ok () h2)
    (q : ∀ r2 H2, Ex r1 H1 r2 H2 → RS G xa r2 h2 H2 → r2[h1.length]? = some D → Q (.ref D) H2) :
    ∃ W' : Nat → Nat → Hp → Prop, (∃ m, W' 0 m (upd H1 D (.lst []))) ∧ ∀ i m H, W' i m H →
      (J.stop i H ∧ Q (.ref D) H) ∨ (J.go i H ∧ ∃ Nx : Hp → Prop, (∀ H', Nx H' → ∃ m', m' < m ∧ W' (i + 1) m' H') ∧ ∀ x H', J.yld i H x H' → tP G xa p x (L2.wipe σ own) H' fun σ2 H2 => L2.wipe σ2 own = L2.wipe σ own ∧ tC G xa fls n c σ2 H2 fun b H3 =>
        if b = true then tE G xa fls n a σ2 H3 fun y H4 => ∃ acc, H4 D = some (.lst acc) ∧ acc.length < sizeLine ∧ Nx (upd H4 D (.lst (acc ++ [y]))) else Nx H3) := by
  have R2 : RS G xa (r1 ++ [D]) (h1 ++ [.lst []]) (upd H1 D (.lst [])) := R1.new hD ⟨[], rfl, RUs.nil⟩
  have X2 : Ex r1 H1 (r1 ++ [D]) (upd H1 D (.lst [])) := ex_new hD
  have hlen : r1.length = h1.length := R1.len
  refine ⟨fun i m H => m = t.items.length - i ∧ i ≤ t.items.length ∧ ∃ r h, Ex (r1 ++ [D]) (upd H1 D (.lst [])) r H ∧ RS G xa r h H ∧ Ev.lcL t.gd h1.length (lcF G n a p c (Ev.wipe e own)) (t.items.drop i) h = .ok () h2,
    ⟨_, rfl, Nat.zero_le _, _, _, Ex.refl _ _, R2, by simpa using ev⟩, ?_⟩
  rintro i m H ⟨rfl, hi, r, h, X3, R3, e3⟩
  have hDr : r[h1.length]? = some D := X3.pre _ _ (by rw [← hlen]; simp)
  by_cases hlt : i < t.items.length
  · rw [List.drop_eq_getElem_cons hlt] at e3
    unfold Ev.lcL at e3
    split at e3
    case isTrue hg =>
      refine .inr ⟨J1.go i r h H hlt (X2.trans X3) R3 hg, fun H' => ∃ r' h', Ex (r1 ++ [D]) (upd H1 D (.lst [])) r' H' ∧ RS G xa r' h' H' ∧ Ev.lcL t.gd h1.length (lcF G n a p c (Ev.wipe e own)) (t.items.drop (i + 1)) h' = .ok () h2,
        fun H' ⟨r', h', a1, a2, a3⟩ => ⟨_, by omega, rfl, hlt, r', h', a1, a2, a3⟩, fun x H' y => ?_⟩
      obtain ⟨X4, R4, k4⟩ := J1.yld i _ r h H x H' (List.getElem?_eq_getElem hlt) (X2.trans X3) R3 hg y
      have E4 : REn G xa r H' (Ev.wipe e own) (L2.wipe σ own) := (E1.mono ((X2.trans X3).trans X4)).wipe own
      cases z : Ev.evP p t.items[i] (Ev.wipe e own) with
      | none => unfold lcF at e3; rw [z] at e3; cases e3
      | some e' =>
        refine ⟨r, _, e', h, _, R4, E4, k4, z, fun σ2 E5 m5 => ⟨by rw [m5 own hp, wipe_wipe fun _ h => h], r, e', h, R4, E5, ?_⟩⟩
        have ef : lcF G n a p c (Ev.wipe e own) t.items[i] h = (Ev.evC G.Γ (Ev.callF G.Γ G.T n) c e' h).bind fun k h3 => match k with
          | true => (Ev.evE G.Γ (Ev.callF G.Γ G.T n) a e' h3).bind fun v h4 => .ok (some v) h4
          | false => .ok none h3 := by unfold lcF; rw [z]
        rw [ef] at e3
        cases z2 : Ev.evC G.Γ (Ev.callF G.Γ G.T n) c e' h with
        | exc _ _ _ => rw [z2] at e3; cases e3
        | bad => rw [z2] at e3; cases e3
        | ok k h3 =>
          rw [z2] at e3
          simp only [Ev.R.bind] at e3
          intro r5 H5 b X5 R5 kb
          obtain rfl : k = b := kb
          cases k with
          | false => exact iteF ⟨r5, h3, X3.trans (X4.trans X5), R5, e3⟩
          | true =>
            refine iteT ⟨r5, e', h3, R5, E5.mono X5, ?_⟩
            dsimp only at e3
            cases z3 : Ev.evE G.Γ (Ev.callF G.Γ G.T n) a e' h3 with
            | exc _ _ _ => rw [z3] at e3; cases e3
            | bad => rw [z3] at e3; cases e3
            | ok v h4 =>
              rw [z3] at e3
              simp only [Ev.R.bind] at e3
              rw [show evE G n a e' h3 = .ok v h4 from z3]
              intro r6 H6 w X6 R6 k6
              have X7 := X3.trans (X4.trans (X5.trans X6))
              have hD6 : r6[h1.length]? = some D := X7.pre _ _ (by rw [← hlen]; simp)
              cases z4 : Ev.lstW h4 h1.length with
              | none => rw [z4] at e3; cases e3
              | some acc =>
                rw [z4] at e3
                dsimp only at e3
                split at e3
                case isTrue hl =>
                  obtain ⟨a', vs, ea, _, t2, k7⟩ := R6.lst z4 (v := .ref D) (show RU G xa r6 H6 (.ref h1.length) (.ref D) from ⟨D, hD6, rfl⟩)
                  cases ea
                  refine ⟨vs, t2, by rw [← k7.len]; exact lim_lt hl, r6, _, X7.trans (ex_write t2 trivial), R6.write hD6 t2 trivial ?_, e3⟩
                  exact RO.mono (ex_write t2 trivial) (o := .lst (acc ++ [v])) (u := .lst (vs ++ [w])) ⟨_, rfl, k7.app (RUs.cons k6 RUs.nil)⟩
                case isFalse => cases e3
    case isFalse => cases e3
  · have hi' : i = t.items.length := by omega
    subst hi'
    rw [List.drop_length] at e3
    unfold Ev.lcL at e3
    split at e3
    case isTrue hg =>
      cases e3
      exact .inl ⟨J1.stop r _ H (X2.trans X3) R3 hg, q r H (X2.trans X3) R3 hDr⟩
    case isFalse => cases e3
theorem c_lc {a it c : Ev.E} {p : Ev.P} {own : List Nat} {x tg iter : Expr} {ifs : List Expr} {scope : Scope} (O : Okx G xa W n false N sc X) (hb : blkC N sc scope (own.map fun i => (N.getD i "", i)) = true) (hsl : ∀ i ∈ slots p, i ∈ own)
    (hP : chP N false (relS scope sc) p tg = true) (hset : noSet iter = true) (hi : PI X tg iter (tI G xa W n it))
    (he : ∀ X', Okx G none fls n false N (relS scope sc) X' → PE X' x (tE G none fls n a)) (hc : ∀ X', Okx G none fls n false N (relS scope sc) X' → PTs X' ifs (tC G none fls n c)) :
    PE X (.ListComp x [⟨tg, iter, ifs, 0⟩] scope pos) (tE G xa W n (.lc a p it c own)) := by
  obtain ⟨cm, hr, tk, hx⟩ := O.cold rfl
  subst hx
  have ob : BlkOk X.N X.env.scope scope (own.map fun i => (N.getD i "", i)) := by rw [O.hN, O.hsc]; exact blkOk_by hb
  refine PE.imp (pe_lc (pos := pos) cm (by rw [O.hN]; exact O.nd) hi ob (fun s H C cl fp => p_any (X := X.blk s H scope (compEnvC scope cl C X.env) fp) (G := G) (xa := none) (N := N) (sc := relS scope sc) O.hN O.nd (O.blk scope s H C cl fp).hsc O.glo.hK cm (cl := false) (fun h => by cases h) p tg hP) (fun s H C cl fp => hc _ (O.blk scope s H C cl fp)) (fun s H C cl fp => he _ (O.blk scope s H C cl fp)) (fold_no hset)) fun s H Q ⟨r, e, h, R, E, q⟩ => ?_
  have eo : (own.map fun i => (N.getD i "", i)).map (·.2) = own := by rw [List.map_map]; exact List.map_id own
  rw [eo]
  unfold evE Ev.evE at q
  refine ⟨r, e, h, R, E, ?_⟩
  cases z : Ev.evIt G.Γ (Ev.callF G.Γ G.T n) it e h with
  | exc c xs h1 => rw [z] at q; exact q
  | bad => rw [z] at q; exact q.elim
  | ok t h1 =>
    rw [z] at q
    simp only [Ev.R.bind] at q
    cases z2 : t.lk with
    | some _ => rw [z2] at q; exact q.elim
    | none =>
      rw [z2] at q
      refine ⟨z2, fun r1 H1 J X1 R1 J1 D hD => ?_⟩
      dsimp only at q
      split at q
      case _ uu h2 e2 =>
        refine lc_walk (h2 := h2) R1 (E.mono X1) J1 hD hsl e2 fun r2 H2 X2 R2 hd => ?_
        exact q r2 H2 (.ref D) (X1.trans X2) R2 ⟨D, hd, rfl⟩
      case _ => exact q.elim
theorem c_dic0 : PE X (.Dict [] [] pos) (tE G xa W n (.dic .nil .nil)) := by
  refine PE.imp pe_dnewK fun s H Q ⟨r, e, h, R, E, q⟩ p hp => ?_
  unfold evE Ev.evE Ev.evEs at q
  have R2 : RS G xa (r ++ [p]) (h ++ [.dic []]) (upd H p (.dK [])) := R.new hp ⟨[], rfl, .nil⟩
  exact q (r ++ [p]) _ (.ref p) (ex_new hp) R2 ⟨p, by rw [← R.len]; simp, rfl⟩
theorem keyOf_rel {u : U} {v : V} {k : DK} {r : List Addr} {H : Hp} (h : Ev.keyOf u = some k) (q : RU G xa r H u v) : v = kV (mkK k) := by
  cases u with
  | int i => cases h; exact q
  | str i => cases h; exact q
  | _ => cases h
theorem c_dic1 {a b : Ev.E} {x y : Expr} (ha : PE X x (tE G xa W n a)) (hb : PE X y (tE G xa W n b)) : PE X (.Dict [some x] [y] pos) (tE G xa W n (.dic (.cons a .nil) (.cons b .nil))) := by
  refine PE.imp (pe_disp (pps_cons ha hb pps_nil) rfl rfl (by simp) (by simp)) fun s H Q ⟨r, e, h, R, E, q⟩ p hp => ?_
  have R2 : RS G xa (r ++ [p]) (h ++ [.dic []]) (upd H p (.dK [])) := R.new hp ⟨[], rfl, .nil⟩
  have X2 : Ex r H (r ++ [p]) (upd H p (.dK [])) := ex_new hp
  have q2 := Post.mono X2 q
  unfold evE Ev.evE Ev.evEs at q2
  have q3 : Post G xa (rlU G xa) ((evE G n a e (h ++ [.dic []])).bind fun u h1 => (evE G n b e h1).bind fun w h2 => match Ev.keyOf u, Ev.dicW h2 h.length with
      | some k, some [] => .ok (.ref h.length) (h2.set h.length (.dic [(k, w)]))
      | _, _ => .bad) (r ++ [p]) (upd H p (.dK [])) Q (fun c d => W c d s) := by
    cases z : Ev.evE G.Γ (Ev.callF G.Γ G.T n) a e (h ++ [.dic []]) with
    | exc _ _ _ => rw [z] at q2; rw [show evE G n a e (h ++ [.dic []]) = _ from z]; exact q2
    | bad => rw [z] at q2; exact q2.elim
    | ok u h1 =>
      rw [z] at q2
      rw [show evE G n a e (h ++ [.dic []]) = _ from z]
      simp only [Ev.R.bind, Ev.evEs] at q2 ⊢
      cases z2 : Ev.evE G.Γ (Ev.callF G.Γ G.T n) b e h1 with
      | exc _ _ _ => rw [z2] at q2; rw [show evE G n b e h1 = _ from z2]; exact q2
      | bad => rw [z2] at q2; exact q2.elim
      | ok w h2 =>
        rw [z2] at q2
        rw [show evE G n b e h1 = _ from z2]
        exact q2
  refine tE_bind R2 (E.mono X2) q3 fun r1 H1 u v h1 X1 R1 E1 k1 p1 => tE_bind R1 E1 p1 fun r3 H3 w z h3 X3 R3 E3 k3 p3 => ?_
  split at p3
  case _ k e1 e2 =>
    obtain ⟨a', vs, ea, rp, t1, k4⟩ := R3.dicWr e2 (v := .ref p) ⟨p, (X1.trans X3).pre _ _ (by rw [← R.len]; simp), rfl⟩
    cases ea
    have ev : vs = [] := by cases k4; rfl
    subst ev
    refine ⟨t1, [(mkK k, z)], ?_, by simp, ?_⟩
    · rw [keyOf_rel e1 k1]; rfl
    · have R4 : RS G xa r3 (h3.set h.length (.dic [(k, w)])) (upd H3 p (.dK [(mkK k, z)])) := R3.write rp t1 trivial (by
        refine RO.mono (ex_write t1 trivial) (o := .dic [(k, w)]) (u := .dK [(mkK k, z)]) ⟨_, rfl, ?_⟩
        exact .cons ⟨rfl, k3⟩ .nil)
      exact p3 r3 _ (.ref p) (ex_write t1 trivial) R4 ⟨p, rp, rfl⟩
  case _ => exact p3.elim
theorem chain_rd {o1 o2 : Ev.COp} {a b c : Ev.E} {s : L2.St} {H : Hp} {Q : VK} (p0 : tE G xa W n (.chain o1 o2 a b c) s H Q) :
    tChain (rB G xa (fun u v h => (Ev.ofO (Ev.evCmp o1 u v h) h).bind fun k h => .ok (.bl k) h) (fun c d => W c d s)) (rB G xa (fun u v h => (Ev.ofO (Ev.evCmp o2 u v h) h).bind fun k h => .ok (.bl k) h) (fun c d => W c d s)) (tE G xa W n a) (tE G xa W n b) (tE G xa W n c) s H Q := by
  obtain ⟨r, e, h, R, E, p⟩ := p0
  unfold evE Ev.evE at p
  refine tE_bind R E p fun r1 H1 u v h1 X1 R1 E1 k1 p1 => tE_bind R1 E1 p1 fun r2 H2 u2 v2 h2 X2 R2 E2 k2 p2 => ?_
  obtain ⟨k, ek, p3⟩ := ofO_some p2
  refine ⟨r2, h2, u, u2, R2, k1.mono X2, k2, ?_⟩
  dsimp only
  rw [ek]
  intro r3 H3 z X3 R3 kz
  have ez : z = .bl k := kz
  refine ⟨k, ez, ?_⟩
  have p4 := Post.mono X3 p3
  cases k with
  | true =>
    refine iteT (tE_bind R3 (E2.mono X3) p4 fun r4 H4 u4 v4 h4 X4 R4 E4 k4 p5 => ?_)
    exact ⟨r4, h4, u2, u4, R4, (k2.mono X3).mono X4, k4, p5⟩
  | false => exact iteF (Post.okI (u := U.bl false) p4 R3 rfl)
theorem bl_of {α : Type} {o : Option α} {f : α → Bool} {h h' : AH} {u : U} (q : ((Ev.ofO o h).bind fun k h => Ev.R.ok (U.bl (f k)) h) = .ok u h') : ∃ k, u = .bl k := by
  cases o with
  | none => cases q
  | some k => cases q; exact ⟨_, rfl⟩
theorem bind_ok {α β : Type} {o : Ev.R α} {f : α → AH → Ev.R β} {u : β} {h' : AH} (q : o.bind f = .ok u h') : ∃ a h1, o = .ok a h1 ∧ f a h1 = .ok u h' := by
  cases o with
  | ok a h1 => exact ⟨a, h1, rfl, q⟩
  | exc _ _ _ => cases q
  | bad => cases q
theorem chain_bl {o1 o2 : Ev.COp} {a b c : Ev.E} {e : Ev.Env} {h h' : AH} {u : U} (q : evE G n (.chain o1 o2 a b c) e h = .ok u h') : ∃ k, u = .bl k := by
  unfold evE Ev.evE at q
  obtain ⟨x, h1, e1, q⟩ := bind_ok q
  obtain ⟨y, h2, e2, q⟩ := bind_ok q
  obtain ⟨k, h3, e3, q⟩ := bind_ok q
  cases k with
  | true =>
    obtain ⟨z, h4, e4, q⟩ := bind_ok q
    exact bl_of q
  | false => cases q; exact ⟨_, rfl⟩
theorem tT_tE {x : Ev.E} (hb : ∀ e h u h', evE G n x e h = .ok u h' → ∃ k, u = .bl k) {s : L2.St} {H : Hp} {Q : Bool → Hp → Prop} (p : tT G xa W n x s H Q) : tE G xa W n x s H (fun v H' => ∃ k, v = .bl k ∧ Q k H') := by
  obtain ⟨r, e, h, R, E, p⟩ := p
  refine ⟨r, e, h, R, E, ?_⟩
  cases z : evE G n x e h with
  | exc c xs h1 => rw [z] at p; exact p
  | bad => rw [z] at p; exact p
  | ok u h1 =>
    rw [z] at p
    obtain ⟨k, rfl⟩ := hb _ _ _ _ z
    intro r1 H1 v X1 R1 k1
    exact ⟨k, k1, p r1 H1 k X1 R1 rfl⟩
theorem t_chain {o1 o2 : Ev.COp} {p1 p2 : CmpOp} {a b c : Ev.E} {l q q2 : Expr} (O : Okx G xa W n hot N sc X) (h1 : chO o1 p1 = true) (h2 : chO o2 p2 = true) (h3 : behindInMarks p2 q2 = false)
    (ha : PE X l (tE G xa W n a)) (hb : PE X q (tE G xa W n b)) (hc : PE X q2 (tE G xa W n c)) : PT X (.Compare l [p1, p2] [q, q2] pos) (tT G xa W n (.chain o1 o2 a b c)) := by
  have e1 : p1 = cop o1 := by cases o1 <;> cases p1 <;> first | rfl | cases h1
  have e2 : p2 = cop o2 := by cases o2 <;> cases p2 <;> first | rfl | cases h2
  subst e1 e2
  refine ⟨fun pins s σ H Q I p => (pt_chain (op_cmp (G := G) (xa := xa) O.glo.hK O.un o1 (fun c d => W c d σ)) (op_cmp (G := G) (xa := xa) O.glo.hK O.un o2 (fun c d => W c d σ)) ha hb hc (by exact h3)).run pins s σ H Q I ?_⟩
  exact chain_rd (tT_tE (fun e h u h' => chain_bl) p)
end
end EvS
/-! EvSp: built-ins that stand apart. -/
namespace EvS
open PySem PySem.Spec PyProof.Rows L2
open Ev (U AO AH DK)
theorem nd_le {α : Type} [BEq α] [LawfulBEq α] : ∀ {l m : List α}, l.Nodup → (∀ x ∈ l, x ∈ m) → l.length ≤ m.length
  | [], _, _, _ => Nat.zero_le _
  | x :: l, m, nd, h => by
    obtain ⟨h1, h2⟩ := List.nodup_cons.mp nd
    have hm : x ∈ m := h x List.mem_cons_self
    have ih := nd_le (l := l) (m := m.erase x) h2 fun y hy => (List.mem_erase_of_ne (fun e => h1 (by rw [← e]; exact hy))).mpr (h y (List.mem_cons_of_mem _ hy))
    rw [List.length_erase_of_mem hm] at ih
    have : 0 < m.length := List.length_pos_of_mem hm
    rw [List.length_cons]
    omega
theorem dd_spec : ∀ (n : Nat) (l : List Str), l.length = n → (dd l).Nodup ∧ ∀ x, x ∈ dd l ↔ x ∈ l
  | 0, l, h => by
    rw [List.length_eq_zero_iff.mp h]
    exact ⟨List.nodup_nil, fun x => Iff.rfl⟩
  | n + 1, l, h => by
    have hne : l ≠ [] := fun e => by rw [e] at h; cases h
    have e := List.dropLast_concat_getLast hne
    have h2 : l.dropLast.length = n := by rw [List.length_dropLast, h]; rfl
    obtain ⟨i1, i2⟩ := dd_spec n l.dropLast h2
    generalize l.getLast hne = z at e
    rw [← e, dd_snoc]
    split
    case isTrue hz =>
      refine ⟨i1, fun x => ⟨fun hx => List.mem_append_left _ ((i2 x).mp hx), fun hx => ?_⟩⟩
      rcases List.mem_append.mp hx with hx | hx
      · exact (i2 x).mpr hx
      · rw [List.mem_singleton.mp hx]; exact hz
    case isFalse hz =>
      refine ⟨List.nodup_append.mpr ⟨i1, by simp, fun a ha b hb => ?_⟩, fun x => ?_⟩
      · have : b = z := by simpa using hb
        rw [this]
        intro e2
        rw [e2] at ha
        exact hz ha
      · rw [List.mem_append, List.mem_append, i2 x]
theorem firsts_spec {α : Type} [DecidableEq α] : ∀ l : List α, (Ev.firsts l).Nodup ∧ ∀ x, x ∈ Ev.firsts l ↔ x ∈ l
  | [] => ⟨List.nodup_nil, fun x => Iff.rfl⟩
  | y :: l => by
    obtain ⟨i1, i2⟩ := firsts_spec l
    unfold Ev.firsts
    refine ⟨List.nodup_cons.mpr ⟨by simp, i1.sublist List.filter_sublist⟩, fun x => ?_⟩
    rw [List.mem_cons, List.mem_cons, List.mem_filter, i2 x]
    by_cases e : x = y
    · simp [e]
    · simp [e]
theorem dd_len (l : List (List Nat)) : (dd (l.map mkS)).length = (Ev.firsts l).length := by
  obtain ⟨d1, d2⟩ := dd_spec _ (l.map mkS) rfl
  obtain ⟨f1, f2⟩ := firsts_spec l
  have hm : ((Ev.firsts l).map mkS).Nodup := by
    rw [List.nodup_iff_pairwise_ne, List.pairwise_map]
    exact (List.nodup_iff_pairwise_ne.mp f1).imp fun h e => h (mkS_inj e)
  refine Nat.le_antisymm ?_ ?_
  · have := nd_le d1 (m := (Ev.firsts l).map mkS) fun x hx => by
      obtain ⟨y, hy, rfl⟩ := List.mem_map.mp ((d2 x).mp hx)
      exact List.mem_map.mpr ⟨y, (f2 y).mpr hy, rfl⟩
    simpa using this
  · have := nd_le hm (m := dd (l.map mkS)) fun x hx => by
      obtain ⟨y, hy, rfl⟩ := List.mem_map.mp hx
      exact (d2 _).mpr (List.mem_map.mpr ⟨y, (f2 y).mp hy, rfl⟩)
    simpa using this
theorem strs_vals : ∀ {ys : List Str} {us : List Value}, Vals (ys.map V.str) us → PyProof.Rows.StrsAre us ys
  | [], _, .nil => .nil
  | y :: ys, _, .cons r t => by
    obtain ⟨k, rfl⟩ := r
    exact .cons y k (strs_vals t)
section
variable {G : Sig} {xa : Xa} {W : WX} {n : Nat} {hot : Bool} {N : List Str} {sc : Scope} {X : Cx} {pos : Pos}
def tLenT (K : PySem.W.Frag) (ta : TE) : TE := fun σ H Q => ta σ H fun x H1 => ∃ (l : Addr) (xs : List Str), x = .ref l ∧ SqL K H1 l (xs.map V.str) ∧ xs.length ≤ 4000 ∧ Q (.int ((dd xs).length : Nat)) H1
theorem pe_lenT {a : Expr} {ta : TE} {p p2 q : Pos} (hc : X.calm = true) (hg : Gl X "len") (hm : X.mg "len" = none) (hg2 : Gl X "set") (hm2 : X.mg "set" = none) (ha : PE X a ta) (hs : noStar a = true) :
    PE X (.Call (.Name "len" p) [.Call (.Name "set" p2) [a] [] q] [] pos) (tLenT X.K ta) := by
  constructor
  intro pins s σ H Q I h
  refine Call_ (ld_blt I hg hm boot_len (PyProof.Rows.callWith_builtin1 (PyProof.Rows.args_cons ?_ rfl) rfl rfl))
  refine Call_ (ld_blt I hg2 hm2 boot_set (PyProof.Rows.callWith_type1 (PyProof.Rows.args_cons (thn (ha.run pins s σ H _ I h) fun v z y => PyProof.Rows.args_nil ?_) (star_cons hs)) (star_cons hs) rfl))
  obtain ⟨x, H1, J, r1, l, xs, rfl, sq, hl, w⟩ := y
  cases r1
  obtain ⟨its, r, pl, hz⟩ := J.list sq
  have e : its.toArray.size = xs.length := by rw [List.size_toArray, ← r.length, List.length_map]
  refine set_of_texts (J.ok.hd hc) pl.isList (by simpa using strs_vals r) (by rw [e]; unfold scanBound; omega) fun h' tk had keep => PyProof.Rows.args_nil ?_
  obtain ⟨o, es, ep, t, ho, hex, hd, _, _, _, hf, hn⟩ := had
  have J2 : Inv X pins σ H1 { z with heap := h', toks := tk } := J.kept fun b o e => keep b o (Heap.lt_size e) e
  have hb : (dd xs).length ≤ 4000 := Nat.le_trans (dd_le _ xs rfl) hl
  exact call_len_set ho hex hd hf (by rw [hn]; omega) ⟨.int ((dd xs).length : Nat), H1, J2.tok _, ⟨_, by rw [hn]⟩, w⟩
theorem c_lenset {a : Ev.E} {l : Expr} {p p2 q : Pos} (O : Okx G xa W n false N sc X) (h1 : glbB sc "len" = true) (h2 : glbB sc "set" = true) (hs : noStar l = true) (ha : PE X l (tE G xa W n a)) :
    PE X (.Call (.Name "len" p) [.Call (.Name "set" p2) [l] [] q] [] pos) (tE G xa W n (.bi .lenset (.cons a .nil))) := by
  obtain ⟨cm, _, _, _⟩ := O.cold rfl
  refine PE.imp (pe_lenT cm (gl_of O h1) (O.glo.blt _ (by decide +kernel)) (gl_of O h2) (O.glo.blt _ (by decide +kernel)) ha hs) fun s H Q ⟨r, e, h, R, E, k⟩ => ?_
  unfold evE Ev.evE Ev.evEs Ev.evEs at k
  have k2 : Post G xa (rlU G xa) ((evE G n a e h).bind fun u h1 => Ev.evBI .lenset [u] h1) r H Q (fun c d => W c d s) := by
    cases z : Ev.evE G.Γ (Ev.callF G.Γ G.T n) a e h with
    | ok u h1 => rw [z] at k; rw [show evE G n a e h = _ from z]; exact k
    | exc _ _ _ => rw [z] at k; rw [show evE G n a e h = _ from z]; exact k
    | bad => rw [z] at k; exact k.elim
  refine tE_bind R E k2 fun r1 H1 u v h1 X1 R1 E1 k1 p1 => ?_
  unfold Ev.evBI at p1
  dsimp only at p1
  cases u with
  | ref m =>
    cases z : Ev.lstAt h1 m with
    | none => rw [show Ev.lstOf h1 (.ref m) = none from z] at p1; exact p1.elim
    | some xs =>
      rw [show Ev.lstOf h1 (.ref m) = some xs from z] at p1
      cases z2 : Ev.strsU xs with
      | none => rw [show (some xs).bind Ev.strsU = none from z2] at p1; exact p1.elim
      | some ys =>
        rw [show (some xs).bind Ev.strsU = some ys from z2] at p1
        dsimp only at p1
        split at p1
        case isTrue hl =>
          obtain ⟨b, vs, rfl, sq, kv⟩ := R1.lstL z k1
          rw [strs_rel z2 kv] at sq
          refine ⟨b, ys.map mkS, rfl, by rw [O.glo.hK]; exact sq, by simpa using hl, ?_⟩
          rw [dd_len]
          exact Post.okI (u := U.int ((Ev.firsts ys).length : Nat)) p1 R1 rfl
        case isFalse => exact p1.elim
  | _ => exact p1.elim
end
end EvS
/-! EvTv: the tuple of a dict's values. -/
namespace EvS
open PySem PySem.Spec PyProof.Rows L2
open Ev (U AO AH DK)
section
variable {prog : Program} {w : World} {A : Around} {E : Value → Shared → Prop} {s : Shared} {K : Type} [DecidableEq K] {knd : KeyKind prog w K} {r d : Addr} {kvs : List (K × Value)} {ep : Nat}
/-- what was gathered: the dict's values -/
abbrev Gath (kvs : List (K × Value)) (acc : Array Value) : Prop := ItemsOf (fun i v => ∃ k, kvs[i]? = some (k, v)) acc kvs.length
theorem tup_new {Q : Value → Shared → Prop} (hh : A.handled = none) (hv : s.heap.IsValuesView r d) (hd : s.heap.DictAt knd d kvs ep) (hn : kvs.length ≤ sizeLine)
    (h : ∀ (h' : Heap) (tk : Nat) (acc : Array Value), (∀ b o, s.heap.get? b = some o → h'.get? b = some o) → Gath kvs acc → Q (.ref h'.objs.size) { s with heap := h'.push { cls := .type "tuple", data := .seq acc }, toks := tk }) :
    codeAny (model prog w) A (.call (.builtin "tuple.__new__") ⟨[.type "tuple", .ref r], []⟩) (wants Q E) s := by
  refine codeAny_of_tree ?_
  show wpAny _ A.in1 (do checkBuiltinCall "tuple.__new__" ⟨[.type "tuple", .ref r], []⟩; again (.builtin "tuple.__new__" ⟨[.type "tuple", .ref r], []⟩)) _ _ s
  refine wpAny_bind (wpAny_of_eq (F.newCall_tuple_1 _) (wpAny_pure ⟨plainId_quiet F.plain_tuple_new _, codeAny_builtin F.entry_tuple_new ?_⟩))
  rw [Around.under_plainId F.plain_tuple_new _]
  have a1 := sub_tuple_self
  have a2 := init_tuple_lookup
  have a3 := madeHere_tuple
  have a4 : s.TypeIs (.ref r) "dict_values" := hv.typeIs
  have a5 : A.in1.handled = none := by simp [hh]
  wp_walk using wpAny_typeOf a4, PySem.W.kdu_collect (PySem.W.kdl_values (knd := knd) (kvs := kvs) (ep := ep) (r := r) (d := d)) a5 ⟨hv, hd⟩ hn
  intro h' tk acc keep g
  show wpAny _ _ (Builtin.Tuple.tupleExact acc.toList.toArray >>= fun v => ret v) _ _ _
  unfold Builtin.Tuple.tupleExact
  have e : acc.toList.toArray = acc := by simp
  rw [e]
  refine wpAny_bind (wpAny_newObj_type ?_ (by show acc.size ≤ sizeLine; rw [g.1]; exact hn))
  exact wpAny_pure (h h' tk acc keep g)
theorem tup_of_values {Q : Value → Shared → Prop} (hh : A.handled = none) (hv : s.heap.IsValuesView r d) (hd : s.heap.DictAt knd d kvs ep) (hn : kvs.length ≤ sizeLine)
    (h : ∀ (h' : Heap) (tk : Nat) (acc : Array Value), (∀ b o, s.heap.get? b = some o → h'.get? b = some o) → Gath kvs acc → Q (.ref h'.objs.size) { s with heap := h'.push { cls := .type "tuple", data := .seq acc }, toks := tk }) :
    wpAny (model prog w) A (call (.type "tuple") [.ref r]) Q E s := by
  refine callType_codes (Q₁ := fun obj s₁ => s₁.TypeIs obj "tuple" ∧ Q obj s₁) F.called_tuple (F.typeCall_tuple_1 _) F.entry_object_init
    (tup_new (knd := knd) (by simp [hh]) hv hd hn fun h' tk acc keep g => ⟨⟨_, Heap.get?_push_size _ rfl, rfl⟩, h h' tk acc keep g⟩) fun obj s₁ h₁ => ?_
  exact ⟨h₁.1, F.args_object_init_2 obj _, object_init_meets F.called_tuple.init.lookup F.called_tuple.made (by decide) prog w A.in1 _ s₁ ⟨h₁.1, rfl, h₁.2⟩⟩
end
theorem gath_list {K : Type} {kvs : List (K × Value)} {acc : Array Value} (g : Gath kvs acc) : acc.toList = kvs.map (·.2) := by
  apply List.ext_getElem?
  intro i
  by_cases hi : i < kvs.length
  · have h1 : i < acc.size := by rw [g.1]; exact hi
    have h2 : acc.toList[i]? = some acc[i] := by rw [Array.getElem?_toList]; exact Array.getElem?_eq_getElem h1
    obtain ⟨k, hk⟩ := g.2 i acc[i] (Array.getElem?_eq_getElem h1)
    rw [h2, List.getElem?_map, hk]
    rfl
  · rw [List.getElem?_eq_none (by simp [g.1]; omega), List.getElem?_eq_none (by simp; omega)]
theorem kv_vals : ∀ {kvs : List (Key × V)} {vs : List (Key × Value)}, KV kvs vs → Vals (kvs.map (·.2)) (vs.map (·.2))
  | [], _, h => by cases h; exact .nil
  | p :: kvs, _, h => by
    cases h with
    | cons h1 h2 => exact .cons h1.2 (kv_vals h2)
section
variable {G : Sig} {xa : Xa} {W : WX} {n : Nat} {N : List Str} {sc : Scope} {X : Cx} {pos : Pos}
def tTupV (td : TE) : TE := fun σ H Q => td σ H fun x H1 => ∃ (a : Addr) (kvs : List (Key × V)), x = .ref a ∧ Rd H1 a (.dK kvs) ∧ ∀ p, H1 p = none → Q (.ref p) (upd H1 p (.tup (kvs.map (·.2))))
theorem pe_tupV {o : Expr} {td : TE} {p apos mpos : Pos} (hc : X.calm = true) (hg : Gl X "tuple") (hm : X.mg "tuple" = none) (hd : PE X o td) (hsu : noSuper o = true) (hline : (apos.endLine == mpos.line) = true) :
    PE X (.Call (.Name "tuple" p) [.Call (.Attribute o "values" apos) [] [] mpos] [] pos) (tTupV td) := by
  constructor
  intro pins s σ H Q I h
  refine Call_ (ld_blt I hg hm (show bootBuiltins "tuple" = some (.type "tuple") by decide +kernel) (PyProof.Rows.callWith_type1 (PyProof.Rows.args_cons ?_ rfl) rfl rfl) (by decide +kernel) (by decide +kernel))
  refine wpAny_Call_method0_late (base_of hsu) hline (thn (hd.run pins s σ H _ I h) fun v s1 y => ?_)
  obtain ⟨x, H1, J, r1, a, kvs, rfl, ha, q⟩ := y
  obtain rfl : v = Value.ref a := r1
  obtain ⟨hz, hsys, vs, rel, dof⟩ := dk_rd J.hok ha
  obtain ⟨ep, dat⟩ := dof.dictAt
  have dat' := dat
  obtain ⟨ob, es, ho, ex, hdat, hko, hpr, hnd⟩ := dat'
  refine ⟨"dict", "dict.values", F.plainAttrs_dict, F.slot_dict_values, F.type_dict_values, ⟨ob, ho, ex.1⟩, fun b e => ?_, Calls.callWith_builtin rfl (PySem.evalArgs_none ?_)⟩
  · cases e
    exact ⟨ob, ho, ex.2.1⟩
  refine call_meetsIn F.slot_dict_values ⟨ob, ho, ex.1⟩ F.entry_dict_values (F.args_dict_values_1 _) (meets_dict_values (mixKind X.prog X.w) a hsys) ⟨⟨vs, dof⟩, ?_⟩
  have k1 : ∀ b u, s1.heap.get? b = some u → (s1.heap.push { cls := .type "dict_values", data := .fields #[.ref a] }).get? b = some u := fun b u e => Heap.get?_push_of_some _ e
  refine PyProof.Rows.args_nil ?_
  refine tup_of_values (knd := mixKind X.prog X.w) (r := s1.heap.objs.size) (d := a) (J.ok.hd hc) ⟨_, Heap.get?_push_size _ rfl, rfl, rfl⟩ (dat.keep k1) (by rw [← KV.length rel]; exact hz) fun h' tk acc keep g => ?_
  have J2 : Inv X pins σ H1 { s1 with heap := h', toks := tk } := J.kept fun b u e => keep b u (k1 b u e)
  have hf : H1 h'.objs.size = none := J2.hok.fresh (Nat.le_refl _)
  refine ⟨.ref h'.objs.size, upd H1 h'.objs.size (.tup (kvs.map (·.2))), J2.laid (t' := tk) (fun b u e => Heap.get?_push_of_some _ e) (Nat.le_refl _) ?_, rfl, q _ hf⟩
  have ea := gath_list g
  obtain ⟨us, rfl⟩ : ∃ us : List Value, acc = us.toArray := ⟨acc.toList, by simp⟩
  have eb : us = vs.map (·.2) := by simpa using ea
  exact ⟨by rw [List.length_map]; exact hz, us, by rw [eb]; exact kv_vals rel, ⟨_, Heap.get?_push_size _ rfl, rfl, _, rfl⟩⟩
theorem c_tupvals {a : Ev.E} {l : Expr} {p apos mpos : Pos} (O : Okx G xa W n false N sc X) (h1 : glbB sc "tuple" = true) (hsu : noSuper l = true) (hline : (apos.endLine == mpos.line) = true) (ha : PE X l (tE G xa W n a)) :
    PE X (.Call (.Name "tuple" p) [.Call (.Attribute l "values" apos) [] [] mpos] [] pos) (tE G xa W n (.bi .tupvals (.cons a .nil))) := by
  obtain ⟨cm, _, _, _⟩ := O.cold rfl
  refine PE.imp (pe_tupV cm (gl_of O h1) (O.glo.blt _ (by decide +kernel)) ha hsu hline) fun s H Q ⟨r, e, h, R, E, k⟩ => ?_
  unfold evE Ev.evE Ev.evEs Ev.evEs at k
  have k2 : Post G xa (rlU G xa) ((evE G n a e h).bind fun u h1 => Ev.evBI .tupvals [u] h1) r H Q (fun c d => W c d s) := by
    cases z : Ev.evE G.Γ (Ev.callF G.Γ G.T n) a e h with
    | ok u h1 => rw [z] at k; rw [show evE G n a e h = _ from z]; exact k
    | exc _ _ _ => rw [z] at k; rw [show evE G n a e h = _ from z]; exact k
    | bad => rw [z] at k; exact k.elim
  refine tE_bind R E k2 fun r1 H1 u v h1 X1 R1 E1 k1 p1 => ?_
  unfold Ev.evBI at p1
  dsimp only at p1
  cases u with
  | ref m =>
    dsimp only at p1
    cases z : Ev.dicAt h1 m with
    | none => rw [z] at p1; exact p1.elim
    | some kvs =>
      rw [z] at p1
      obtain ⟨b, ks, rfl, _, rd, kv⟩ := R1.dicR z k1
      refine ⟨b, ks, rfl, rd, fun q hq => ?_⟩
      have m2 : RUs G xa r1 H1 (kvs.map (·.2)) (ks.map (·.2)) := by
        have gen : ∀ {kvs : List (DK × U)} {ks : List (Key × V)}, RKv G xa r1 H1 kvs ks → RUs G xa r1 H1 (kvs.map (·.2)) (ks.map (·.2)) := by
          intro kvs
          induction kvs with
          | nil => intro ks h; cases h; exact RUs.nil
          | cons p kvs ih =>
            intro ks h
            cases h with
            | cons a b => exact RUs.cons a.2 (ih b)
        exact gen kv
      exact Post.newT p1 R1 m2 hq
  | _ => exact p1.elim
end
end EvS
/-! EvSk: sorted by a key: a def that hands back an item. -/
namespace EvS
open PySem PySem.Spec PyProof.Rows L2
open Ev (U AO AH DK)
section
variable {P : Program} {w : World} {A : Around} {K : PySem.W.Frag} {s : Shared}
theorem key_run {f t : Addr} {j : Nat} {its : List Value} {i : Int} {tk : Tok} (T : KTxt K f j) (X : K.In s.heap) (hlim : s.heap.NoLimit) (hroom : A.depth < recursionLimit) (ht : IsTup s.heap t its.toArray) (hj : its[j]? = some (.int i tk)) (hjs : j < 1000) :
    wpAny (model P w) A (call (.ref f) [.ref t]) (PySem.W.KeyPure (.int i) s) (fun _ _ => False) s := by
  obtain ⟨x, nm, qual, st, fd, kk, p1, p2, p3, p4, F, S, hl, hx, hb, B⟩ := T.ex
  obtain ⟨oc, od, kV, doc, pm, an, cdv, ct, osl, rfl, lk, hcd⟩ := F.ex
  refine wpAny_call ?_
  refine Att.call_fn (binds := [(x, .ref t)]) X hlim lk hcd hroom (B s [.ref t] X rfl) (by simp [hl]) (fun s₁ IC => ?_) S.co S.gen S.kind
  obtain ⟨h₁, tk₁, rfl⟩ := IC.toInCall.same
  have k := IC.toInCall.keep
  have hn := IC.toInCall.ns
  rw [hb]
  obtain ⟨d0, e0, _⟩ := nmB_ok hx
  have hm : (bindL (envOfC qual (defScope st) s.heap.objs.size f cdv).kindOf [(x, Value.ref t)] fun _ => none) x = some (.ref t) := by
    have hk : (envOfC qual (defScope st) s.heap.objs.size f cdv).kindOf x = some .local := hl
    simp [bindL, hk]
  obtain ⟨ob, ho, hc, nn, hd⟩ := ht
  refine wpAny_execs_cons (wpAny_Return_some (Subscript_ (wpAny_Name (wpAny_loadName_local S.kind hl hn hm ?_) d0)))
  refine wpAny_Constant_int (item_tuple (items := its.toArray) (j := j) ⟨ob, k _ _ ho, hc, nn, hd⟩ (by omega) (by omega) ?_ (by simpa using hj) ?_)
  · have hlt : j < its.length := (List.getElem?_eq_some_iff.mp hj).1
    rw [seqIndex_of (by omega) (by simpa using hlt)]
    simp
  · exact ⟨h₁, _, rfl, k, .int _ _⟩
end
/-! ### the order -/
theorem ins_pass {α : Type} (le : α → α → Bool) (x : α) : ∀ (a b : List α), (∀ y ∈ a, le x y = false) → Ev.insSort le x (a ++ b) = a ++ Ev.insSort le x b
  | [], b, _ => rfl
  | y :: a, b, h => by
    have h1 := h y (by simp)
    simp only [List.cons_append, Ev.insSort, h1]
    rw [if_neg (by simp), ins_pass le x a b fun z hz => h z (by simp [hz])]
theorem ms_sort {α : Type} (le : α → α → Bool) (tr : ∀ a b c, le a b = true → le b c = true → le a c = true) (tot : ∀ a b, (le a b || le b a) = true) : ∀ l : List α, l.mergeSort le = Ev.sortBy le l
  | [] => by simp [Ev.sortBy]
  | x :: l => by
    obtain ⟨l1, l2, e1, e2, e3⟩ := List.mergeSort_cons tr tot x l
    have ih := ms_sort le tr tot l
    have sp := List.pairwise_mergeSort tr tot (x :: l)
    rw [e1] at sp ⊢
    show _ = Ev.insSort le x (Ev.sortBy le l)
    rw [← ih, e2, ins_pass le x l1 l2 fun y hy => by simpa using e3 y hy]
    congr 1
    cases l2 with
    | nil => rfl
    | cons y l2 =>
      have := (List.pairwise_append.mp sp).2.1
      have h1 := List.rel_of_pairwise_cons this (show y ∈ y :: l2 by simp)
      simp only [Ev.insSort, h1, if_true]
section
variable {X : Cx} {pins : List (Addr × Obj)} {s : Shared} {σ : L2.St} {H : Hp}
/-- a tuple whose j-th item is a number -/
def KeyAt (K : PySem.W.Frag) (H : Hp) (j : Nat) (v : V) (i : Int) : Prop := ∃ (t : Addr) (ws : List V), v = .ref t ∧ SqT K H t ws ∧ ws[j]? = some (.int i)
def rSk (K : PySem.W.Frag) (f : Addr) (j : Nat) : List V → List V → Hp → VK → Prop := fun vs zs H Q => ∃ (a : Addr) (ps : List (Int × V)), vs = [V.ref a] ∧ zs = [V.ref f] ∧ SqL K H a (ps.map (·.2)) ∧ (∀ p ∈ ps, KeyAt K H j p.2 p.1) ∧
  ∀ p, H p = none → Q (.ref p) (upd H p (.lst ((Ev.sortBy (fun a b => decide (a.1 ≤ b.1)) ps).map (·.2))))
theorem each_of {K : PySem.W.Frag} {j : Nat} : ∀ {ps : List (Int × V)} {its : List Value}, Vals (ps.map (·.2)) its → (∀ p ∈ ps, KeyAt K H j p.2 p.1) → PySem.W.EachIs (fun (v : Value) (p : Int × V) => RelV p.2 v ∧ KeyAt K H j p.2 p.1) its ps
  | [], _, h, _ => by cases h; exact .nil
  | p :: ps, _, h, hk => by
    cases h with
    | cons h1 h2 => exact .cons ⟨h1, hk p (by simp)⟩ (each_of h2 fun q hq => hk q (by simp [hq]))
theorem each_vals {R : Value → Int × V → Prop} (hR : ∀ v p, R v p → RelV p.2 v) : ∀ {ps : List (Int × V)} {its : List Value}, PySem.W.EachIs R its ps → Vals (ps.map (·.2)) its
  | _, _, .nil => .nil
  | _, _, .cons h1 h2 => .cons (hR _ _ h1) (each_vals hR h2)
theorem cr_sk {f : Addr} {j : Nat} (T : KTxt X.K f j) (hjs : j < 1000) (hd : X.A.depth < recursionLimit) (hu : X.A.units + 64 < cLine) : CallRK X (.builtin "sorted") [Str.ofString "key"] (rSk X.K f j) := by
  intro pins s σ H vs zs us ws Q I r rz h
  obtain ⟨a, ps, rfl, rfl, hs, hk, q⟩ := h
  obtain rfl := Vals.ref1 r
  obtain rfl := Vals.ref1 rz
  obtain ⟨its, rv, hl, hz⟩ := I.list hs
  have ea : PySem.W.EachIs (fun (v : Value) (p : Int × V) => RelV p.2 v ∧ KeyAt X.K H j p.2 p.1) its ps := each_of rv hk
  have hz' : ps.length ≤ sizeLine := by rw [List.length_map] at hz; exact hz
  refine PySem.W.sorted_key_data (β := Int × V) (b := false) (f := .ref f) (fun p => PyData.int p.1) hl.isList ea ?al ?so hz' ?hu (PyProof.Rows.ksk_s1 _ _) (fun _ => PyProof.Rows.ksk_l1 _ _) (fun x => PyProof.Rows.ksk_t1 f x) ?turn ?en
  case al =>
    intro d hd d' hd'
    obtain ⟨p, _, rfl⟩ := List.mem_map.mp hd
    obtain ⟨p', _, rfl⟩ := List.mem_map.mp hd'
    simp [PySem.W.alike]
  case so =>
    refine .inr fun d hd => ?_
    obtain ⟨p, _, rfl⟩ := List.mem_map.mp hd
    constructor
    · intro z; injection z
    · intro xs z; injection z
  case hu =>
    intro p _
    simp [PyData.depth]
    omega
  case turn =>
    intro v p hR hx h tk keep
    obtain ⟨r1, t, ws, e1, sq, e2⟩ := hR
    obtain ⟨its2, rv2, ⟨ob, ho, hc, nn, hdd⟩, _⟩ := I.tuple sq
    rw [e1] at r1
    obtain rfl : v = Value.ref t := r1
    obtain ⟨u, eu, ru⟩ := rv2.get e2
    obtain ⟨tk2, rfl⟩ := ru
    exact key_run (s := { s with heap := h, toks := tk }) T (PySem.W.Frag.In.keeps I.kIn keep) (I.nolimit.keeps keep) (show X.A.depth < _ from hd) ⟨ob, keep _ _ ho, hc, nn, hdd⟩ eu hjs
  case en =>
    intro out c h' tk kp fr hD hlen each
    rw [PySem.W.dataLe_int, ms_sort _ (by intro a b c h1 h2; simp at h1 h2 ⊢; omega) (by intro a b; simp; omega)] at each
    refine ⟨.ref _, upd H (s.heap.objs.size + 1) (.lst ((Ev.sortBy (fun a b => decide (a.1 ≤ b.1)) ps).map (·.2))), I.laid (t' := tk) kp (Nat.le_succ _) ⟨?_, out, c, each_vals (fun _ _ h => h.1) each, hD⟩, rfl, q _ (I.hok.fresh (Nat.le_succ _))⟩
    rw [List.length_map, (sort_perm _ ps).length_eq]
    exact hz'
end
section
variable {G : Sig} {xa : Xa} {W : WX} {n : Nat} {N : List Str} {sc : Scope} {X : Cx} {pos : Pos}
theorem keys_rel {r : List Addr} {H : Hp} {j : Nat} : ∀ {xs : List U} {ks : List Int} {vs : List V}, Ev.keysAt j xs = some ks → RUs G xa r H xs vs →
    ks.length = xs.length ∧ vs.length = xs.length ∧ ∀ p ∈ ks.zip vs, KeyAt G.K H j p.2 p.1
  | [], ks, vs, e, h => by
    unfold RUs at h; subst h
    simp [Ev.keysAt] at e; subst e
    simp
  | x :: xs, ks, vs, e, h => by
    unfold RUs at h
    obtain ⟨v, vs', rfl, h1, h2⟩ := h
    cases x with
    | tup us =>
      unfold Ev.keysAt at e
      split at e
      · rename_i k ks' e1 e2
        cases e
        obtain ⟨a1, a2, a3⟩ := keys_rel e2 h2
        refine ⟨by simp [a1], by simp [a2], fun p hp => ?_⟩
        rcases List.mem_cons.mp hp with rfl | hp
        · unfold RU at h1
          obtain ⟨t, ws, rfl, h3, h4⟩ := h1
          obtain ⟨w, e3, e4⟩ := h4.get e1
          unfold RU at e4
          subst e4
          exact ⟨t, ws, rfl, h3.sq, e3⟩
        · exact a3 p hp
      · cases e
    | _ => unfold Ev.keysAt at e; cases e
theorem sort_rel {r : List Addr} {H : Hp} : ∀ {ks : List Int} {xs : List U} {vs : List V}, ks.length = xs.length → RUs G xa r H xs vs →
    Paired (fun p q => p.1 = q.1 ∧ RU G xa r H p.2 q.2) (ks.zip xs) (ks.zip vs)
  | [], _, _, _, _ => by simp; exact .nil
  | k :: ks, [], _, e, _ => by simp at e
  | k :: ks, x :: xs, vs, e, h => by
    unfold RUs at h
    obtain ⟨v, vs', rfl, h1, h2⟩ := h
    exact .cons ⟨rfl, h1⟩ (sort_rel (by simpa using e) h2)
theorem ins_rel {α β : Type} {R : Int × α → Int × β → Prop} (hR : ∀ p q, R p q → p.1 = q.1) {x : Int × α} {y : Int × β} (h : R x y) : ∀ {l : List (Int × α)} {m : List (Int × β)}, Paired R l m →
    Paired R (Ev.insSort (fun a b => decide (a.1 ≤ b.1)) x l) (Ev.insSort (fun a b => decide (a.1 ≤ b.1)) y m)
  | _, _, .nil => .cons h .nil
  | p :: l, q :: m, .cons h1 h2 => by
    have e1 := hR _ _ h
    have e2 := hR _ _ h1
    simp only [Ev.insSort, e1, e2]
    split
    · exact .cons h (.cons h1 h2)
    · exact .cons h1 (ins_rel hR h h2)
theorem srt_rel {α β : Type} {R : Int × α → Int × β → Prop} (hR : ∀ p q, R p q → p.1 = q.1) : ∀ {l : List (Int × α)} {m : List (Int × β)}, Paired R l m →
    Paired R (Ev.sortBy (fun a b => decide (a.1 ≤ b.1)) l) (Ev.sortBy (fun a b => decide (a.1 ≤ b.1)) m)
  | _, _, .nil => .nil
  | _, _, .cons h1 h2 => ins_rel hR h1 (srt_rel hR h2)
theorem snd_rel {r : List Addr} {H : Hp} : ∀ {l : List (Int × U)} {m : List (Int × V)}, Paired (fun p q => p.1 = q.1 ∧ RU G xa r H p.2 q.2) l m → RUs G xa r H (l.map (·.2)) (m.map (·.2))
  | _, _, .nil => RUs.nil
  | _, _, .cons h1 h2 => RUs.cons h1.2 (snd_rel h2)
theorem c_sortedk {a : Ev.E} {l : Expr} {y : Str} {p q kp : Pos} {k j : Nat} (O : Okx G xa W n false N sc X) (h1 : glbB sc "sorted" = true) (h2 : glbB sc y = true) (hn : nmB y = true) (hm : X.mg y = some (.ref (G.fa k))) (T : KTxt X.K (G.fa k) j) (hjs : j < 1000) (hs : noStar l = true) (ha : PE X l (tE G xa W n a)) :
    PE X (.Call (.Name "sorted" p) [l] [⟨some "key", .Name y q, kp⟩] pos) (tE G xa W n (.bi (.sortedk j) (.cons a .nil))) := by
  obtain ⟨cm, hr, _, _⟩ := O.cold rfl
  have d := hr.dp
  refine PE.imp (pe_callBK (cr_sk T hjs (by omega) O.un) (gl_of O h1) (O.glo.blt _ (by decide +kernel)) (by decide +kernel) (pa_cons ha pa_nil (star_cons hs)) (pk_cons (pe_glob (gl_of O h2) hm (show RelV (.ref (G.fa k)) _ from rfl) (nmB_ok hn).1) pk_nil) (by decide +kernel) (by decide +kernel) (by rw [star_cons hs]; rfl) (star_none (by simpa using hs))) fun s H Q ⟨r, e, h, R, E, k⟩ => ?_
  unfold evE Ev.evE Ev.evEs Ev.evEs at k
  have k2 : Post G xa (rlU G xa) ((evE G n a e h).bind fun u h1 => Ev.evBI (.sortedk j) [u] h1) r H Q (fun c d => W c d s) := by
    cases z : Ev.evE G.Γ (Ev.callF G.Γ G.T n) a e h with
    | ok u h1 => rw [z] at k; rw [show evE G n a e h = _ from z]; exact k
    | exc _ _ _ => rw [z] at k; rw [show evE G n a e h = _ from z]; exact k
    | bad => rw [z] at k; exact k.elim
  refine tE_bind R E k2 fun r1 H1 u v h1 X1 R1 E1 k1 p1 => ?_
  unfold Ev.evBI at p1
  dsimp only at p1
  cases u with
  | ref m =>
    cases z : Ev.lstAt h1 m with
    | none => rw [show Ev.lstOf h1 (.ref m) = none from z] at p1; exact p1.elim
    | some xs =>
      rw [show Ev.lstOf h1 (.ref m) = some xs from z] at p1
      dsimp only at p1
      cases z2 : Ev.keysAt j xs with
      | none => rw [z2] at p1; exact p1.elim
      | some ks =>
        rw [z2] at p1
        dsimp only at p1
        obtain ⟨b, vs, rfl, sq, kv⟩ := R1.lstL z k1
        obtain ⟨a1, a2, a3⟩ := keys_rel z2 kv
        have ez : (ks.zip vs).map (·.2) = vs := List.map_snd_zip (by omega)
        refine ⟨b, ks.zip vs, rfl, rfl, by rw [ez, O.glo.hK]; exact sq, by rw [O.glo.hK]; exact a3, fun p hp => ?_⟩
        exact p1.newL R1 (snd_rel (srt_rel (fun _ _ h => h.1) (sort_rel a1 kv))) hp
  | _ => exact p1.elim
end
end EvS
/-! EvR: every expression that passes the check. -/
namespace EvS
open PySem PySem.Spec PyProof.Rows L2
open Ev (U AO AH DK)

def Sx (G : Sig) (xa : Xa) (W : WX) (n : Nat) (X : Cx) (t : Bool) (e : Expr) (x : Ev.E) : Prop := (t = false → PE X e (tE G xa W n x)) ∧ (t = true → PT X e (tT G xa W n x))
structure EsOk (G : Sig) (xa : Xa) (W : WX) (n : Nat) (X : Cx) (t : Bool) (xs : List Expr) (es : Ev.E) : Prop where
  pa : t = false → PA X xs (tEs G xa W n es)
  one : ∀ l, xs = [l] → ∃ a, es = .cons a .nil ∧ Sx G xa W n X t l a
  nil : xs = [] → es = .nil
  an : t = false → xs ≠ [] → ∀ pos, PE X (.BoolOp .And xs pos) (tAn G xa W n es)
  on : t = false → xs ≠ [] → ∀ pos, PE X (.BoolOp .Or xs pos) (tOn G xa W n es)
  ant : t = true → xs ≠ [] → ∀ pos, PW X (.BoolOp .And xs pos) (tAnT G xa W n es)
  ont : t = true → xs ≠ [] → ∀ pos, PW X (.BoolOp .Or xs pos) (tOnT G xa W n es)
section
variable {G : Sig} {n : Nat}
theorem sx_of {xa : Xa} {W : WX} {hot : Bool} {N : List Str} {sc : Scope} {X : Cx} {t : Bool} {e : Expr} {x : Ev.E} (O : Okx G xa W n hot N sc X) (hp : plainT e = true) (P : PE X e (tE G xa W n x)) : Sx G xa W n X t e x :=
  ⟨fun _ => P, fun _ => t_any O hp P⟩
theorem isi_nc {sc : Scope} : ∀ {ts : List Ev.Ty} {zs : List Expr}, zs.length = ts.length → (ts.zip zs).all (fun p => tyB p.1 p.2 && (match p.2 with | .Name z _ => glbB sc z | _ => false)) = true → ∀ t ∈ ts, ∀ c, t ≠ .cls c
  | [], _, _, _, _, m, _ => by cases m
  | t :: ts, [], hl, _, _, _, _ => by cases hl
  | t :: ts, z :: zs, hl, h, u, m, c => by
    simp only [List.zip_cons_cons, List.all_cons, Bool.and_eq_true] at h
    rcases List.mem_cons.mp m with e | m
    · intro e2
      rw [← e, e2] at h
      cases h.1.1
    · exact isi_nc (by simpa using hl) h.2 u m c
theorem cons_of {hot : Bool} {N : List Str} {sc : Scope} {t : Bool} {b : Ev.E} {q : Expr} {rest : List Expr} (h : chEs G hot N b t sc (q :: rest) = true) : ∃ x y, b = .cons x y := by
  cases b with
  | cons x y => exact ⟨x, y, rfl⟩
  | _ => cases h
mutual
theorem sE : ∀ (x : Ev.E) {xa : Xa} {W : WX} {hot : Bool} {N : List Str} {sc : Scope} {X : Cx} {t : Bool} {e : Expr}, Okx G xa W n hot N sc X → chE G hot N x t sc e = true → Sx G xa W n X t e x
  | .var i, xa, W, hot, N, sc, X, t, e, O, h => by
    cases e with
    | Name x p =>
      unfold chE at h
      simp only [Bool.and_eq_true, beq_iff_eq] at h
      exact sx_of O rfl (c_var O h.1.1 h.1.2 h.2)
    | _ => cases h
  | .con u, xa, W, hot, N, sc, X, t, e, O, h => by
    cases e with
    | Constant c k p => exact sx_of O rfl (c_con h)
    | _ => cases h
  | .glb g, xa, W, hot, N, sc, X, t, e, O, h => by
    cases e with
    | Name x p =>
      unfold chE at h
      simp only [Bool.and_eq_true, beq_iff_eq] at h
      exact sx_of O rfl (c_glb O h.1.1 h.1.2 h.2)
    | _ => cases h
  | .fnv k, xa, W, hot, N, sc, X, t, e, O, h => by cases e <;> cases h
  | .bin op a b, xa, W, hot, N, sc, X, t, e, O, h => by
    cases e with
    | BinOp l o r p =>
      unfold chE at h
      simp only [Bool.and_eq_true] at h
      exact sx_of O rfl (c_bin O h.1.1 ((sE a O h.1.2).1 rfl) ((sE b O h.2).1 rfl))
    | Subscript l q p =>
      cases q with
      | Slice lo hi st p2 =>
        match lo, hi, st, h with
        | none, none, some y, h =>
          unfold chE at h
          simp only [Bool.and_eq_true] at h
          have eo : op = .step := by cases op <;> first | rfl | cases h.1.1
          subst eo
          exact sx_of O rfl (c_step O ((sE a O h.1.2).1 rfl) ((sE b O h.2).1 rfl))
        | some _, _, _, h => cases h
        | none, some _, _, h => cases h
        | none, none, none, h => cases h
      | _ => cases h
    | _ => cases h
  | .neg a, xa, W, hot, N, sc, X, t, e, O, h => by
    cases e with
    | UnaryOp o l p =>
      cases o with
      | USub => exact sx_of O rfl (c_neg ((sE a O h).1 rfl))
      | _ => cases h
    | _ => cases h
  | .cmp op a b, xa, W, hot, N, sc, X, t, e, O, h => by
    cases e with
    | Compare l os rs p =>
      match os, rs, h with
      | [o], [r], h =>
        unfold chE at h
        simp only [Bool.and_eq_true, Bool.not_eq_true'] at h
        have ha := (sE a O h.1.2).1 rfl
        have hb := (sE b O h.2).1 rfl
        exact ⟨fun _ => c_cmp O h.1.1.1 h.1.1.2 ha hb, fun _ => t_cmp O h.1.1.1 h.1.1.2 ha hb⟩
    | _ => cases h
  | .chain o1 o2 a b c, xa, W, hot, N, sc, X, t, e, O, h => by
    cases e with
    | Compare l os rs p =>
      match os, rs, h with
      | [p1, p2], [r1, r2], h =>
        unfold chE at h
        simp only [Bool.and_eq_true, Bool.not_eq_true'] at h
        have ha := (sE a O h.1.1.2).1 rfl
        have hb := (sE b O h.1.2).1 rfl
        have hc := (sE c O h.2).1 rfl
        exact ⟨fun _ => c_chain O h.1.1.1.1.1.1 h.1.1.1.1.1.2 h.1.1.1.2 ha hb hc, fun _ => t_chain O h.1.1.1.1.1.1 h.1.1.1.1.1.2 h.1.1.1.2 ha hb hc⟩
    | _ => cases h
  | .not a, xa, W, hot, N, sc, X, t, e, O, h => by
    cases e with
    | UnaryOp o l p =>
      cases o with
      | Not =>
        have ha := sE a O (t := t) h
        exact ⟨fun et => c_not O (ha.1 et), fun et => t_not (ha.2 et)⟩
      | _ => cases h
    | _ => cases h
  | .and es, xa, W, hot, N, sc, X, t, e, O, h => by
    cases e with
    | BoolOp o xs p =>
      cases o with
      | And =>
        unfold chE at h
        simp only [Bool.and_eq_true, Bool.not_eq_true'] at h
        have ne : xs ≠ [] := fun e => by rw [e] at h; exact absurd h.1 (by decide)
        have k := sEs es O h.2
        exact ⟨fun et => PE.imp (k.an et ne p) fun s H Q ⟨r, e, hh, R, E, q⟩ => ⟨r, e, hh, R, E, q⟩, fun et => PT.imp (k.ant et ne p).pt fun s H Q ⟨r, e, hh, R, E, q⟩ => ⟨r, e, hh, R, E, q⟩⟩
      | Or => cases h
    | _ => cases h
  | .or es, xa, W, hot, N, sc, X, t, e, O, h => by
    cases e with
    | BoolOp o xs p =>
      cases o with
      | Or =>
        unfold chE at h
        simp only [Bool.and_eq_true, Bool.not_eq_true'] at h
        have ne : xs ≠ [] := fun e => by rw [e] at h; exact absurd h.1 (by decide)
        have k := sEs es O h.2
        exact ⟨fun et => PE.imp (k.on et ne p) fun s H Q ⟨r, e, hh, R, E, q⟩ => ⟨r, e, hh, R, E, q⟩, fun et => PT.imp (k.ont et ne p).pt fun s H Q ⟨r, e, hh, R, E, q⟩ => ⟨r, e, hh, R, E, q⟩⟩
      | And => cases h
    | _ => cases h
  | .ife tt a b, xa, W, hot, N, sc, X, t, e, O, h => by
    cases e with
    | IfExp t' a' b' p =>
      unfold chE at h
      simp only [Bool.and_eq_true, Bool.not_eq_true'] at h
      have P := c_ife (pos := p) ((sE tt O h.1.1.2).2 rfl) ((sE a O h.1.2).1 rfl) ((sE b O h.2).1 rfl)
      exact ⟨fun _ => P, fun et => by rw [et] at h; exact absurd h.1.1.1 (by decide)⟩
    | _ => cases h
  | .tup es, xa, W, hot, N, sc, X, t, e, O, h => by
    cases e with
    | Tuple xs k p =>
      unfold chE at h
      simp only [Bool.and_eq_true, decide_eq_true_eq] at h
      exact sx_of O rfl (c_tup (Nat.le_trans h.1 (by decide)) h.2 ((sEs es O h.2).pa rfl))
    | _ => cases h
  | .lst es, xa, W, hot, N, sc, X, t, e, O, h => by
    cases e with
    | List xs p =>
      unfold chE at h
      simp only [Bool.and_eq_true, decide_eq_true_eq] at h
      exact sx_of O rfl (c_lst (Nat.le_trans h.1 (by decide)) h.2 ((sEs es O h.2).pa rfl))
    | _ => cases h
  | .dic ks vs, xa, W, hot, N, sc, X, t, e, O, h => by
    cases e with
    | Dict xs ys p =>
      match xs, ys, h with
      | [], [], h =>
        unfold chE at h
        simp only [Bool.and_eq_true] at h
        rw [(sEs ks O h.1).nil rfl, (sEs vs O h.2).nil rfl]
        exact sx_of O rfl c_dic0
      | [some x], [y], h =>
        unfold chE at h
        simp only [Bool.and_eq_true] at h
        obtain ⟨a, rfl, ha⟩ := (sEs ks O h.1).one _ rfl
        obtain ⟨b, rfl, hb⟩ := (sEs vs O h.2).one _ rfl
        exact sx_of O rfl (c_dic1 (ha.1 rfl) (hb.1 rfl))
    | _ => cases h
  | .ix a i, xa, W, hot, N, sc, X, t, e, O, h => by
    cases e with
    | Subscript x y p =>
      unfold chE at h
      simp only [Bool.and_eq_true] at h
      exact sx_of O rfl (c_ix O h.1.1 ((sE a O h.1.2).1 rfl) ((sE i O h.2).1 rfl))
    | _ => cases h
  | .sl a lo hi, xa, W, hot, N, sc, X, t, e, O, h => by
    cases e with
    | Subscript x y p =>
      cases y with
      | Slice l u st p2 =>
        cases st with
        | none =>
          unfold chE at h
          simp only [Bool.and_eq_true] at h
          have hl := sEs lo O h.1.2
          have hu := sEs hi O h.2
          refine sx_of O rfl (c_sl O ((sE a O h.1.1).1 rfl) ?_ ?_)
          · cases l with
            | none => rw [hl.nil rfl]; exact o_nil
            | some l =>
              obtain ⟨a, rfl, ha⟩ := hl.one l rfl
              exact o_some (ha.1 rfl)
          · cases u with
            | none => rw [hu.nil rfl]; exact o_nil
            | some l =>
              obtain ⟨a, rfl, ha⟩ := hu.one l rfl
              exact o_some (ha.1 rfl)
        | some _ => cases h
      | _ => cases h
    | _ => cases h
  | .call f es, xa, W, hot, N, sc, X, t, e, O, h => by
    cases e with
    | Call fe xs kws p =>
      cases fe with
      | Name x px =>
        cases kws with
        | nil =>
          unfold chE at h
          simp only [Bool.and_eq_true, Bool.not_eq_true', beq_iff_eq] at h
          obtain ⟨⟨⟨⟨hh, h1⟩, h2⟩, h3⟩, h4⟩ := h
          subst hh
          exact sx_of O rfl (c_call O h1 h2 h3 h4 ((sEs es O h4).pa rfl))
        | cons _ _ => cases h
      | _ => cases h
    | _ => cases h
  | .mk c es, xa, W, hot, N, sc, X, t, e, O, h => by
    cases e with
    | Call fe xs kws p =>
      cases fe with
      | Name x px =>
        cases kws with
        | nil =>
          unfold chE at h
          simp only [Bool.and_eq_true, Bool.not_eq_true', beq_iff_eq] at h
          obtain ⟨⟨⟨⟨⟨hh, h1⟩, h2⟩, h3⟩, h5⟩, h4⟩ := h
          subst hh
          exact sx_of O rfl (c_mk O h1 h2 h3 h5 h4 ((sEs es O h4).pa rfl))
        | cons _ _ => cases h
      | _ => cases h
    | _ => cases h
  | .meth o m es, xa, W, hot, N, sc, X, t, e, O, h => by
    cases e with
    | Call fe xs kws p =>
      cases fe with
      | Attribute x y apos =>
        cases kws with
        | nil =>
          unfold chE at h
          simp only [Bool.and_eq_true, Bool.not_eq_true', beq_iff_eq, decide_eq_true_eq] at h
          obtain ⟨⟨⟨⟨⟨⟨hh, h1⟩, h2⟩, h3⟩, h4⟩, h5⟩, h6⟩ := h
          subst hh
          exact sx_of O rfl (c_meth O h1 h2 (by simpa using h3) h4 h6 ((sE o O h5).1 rfl) ((sEs es O h6).pa rfl))
        | cons _ _ => cases h
      | _ => cases h
    | _ => cases h
  | .fld o f, xa, W, hot, N, sc, X, t, e, O, h => by
    cases e with
    | Attribute x y p =>
      unfold chE at h
      simp only [Bool.and_eq_true, beq_iff_eq] at h
      exact sx_of O rfl (c_fld O h.1.1 h.1.2 ((sE o O h.2).1 rfl))
    | _ => cases h
  | .bi b es, xa, W, hot, N, sc, X, t, e, O, h => by
    cases e with
    | Call fe xs kws p =>
      cases fe with
      | Name x px =>
        unfold chE at h
        cases hsp : spB b with
        | true =>
          rw [if_pos hsp] at h
          cases b with
          | lenset =>
            match xs, kws, h with
            | [.Call (.Name y py) ys [] q], [], h =>
              unfold chSp at h
              simp only [Bool.and_eq_true, Bool.not_eq_true', decide_eq_true_eq] at h
              obtain ⟨⟨⟨⟨⟨⟨hh, g1⟩, rfl⟩, rfl⟩, g2⟩, g3⟩, g4⟩ := h
              subst hh
              obtain ⟨z, rfl⟩ := List.length_eq_one_iff.mp g3
              have k := sEs es O g4
              obtain ⟨a, rfl, ha⟩ := k.one z rfl
              exact sx_of O rfl (c_lenset O g1 g2 (by simpa using es_star g4) (ha.1 rfl))
          | tupvals =>
            match xs, kws, h with
            | [.Call (.Attribute y z apos) [] [] q], [], h =>
              unfold chSp at h
              simp only [Bool.and_eq_true, Bool.not_eq_true', decide_eq_true_eq] at h
              obtain ⟨⟨⟨⟨⟨⟨hh, g1⟩, rfl⟩, rfl⟩, g2⟩, g3⟩, g4⟩ := h
              subst hh
              have k := sEs es O g4
              obtain ⟨a, rfl, ha⟩ := k.one y rfl
              exact sx_of O rfl (c_tupvals O g1 g3 g2 (ha.1 rfl))
          | sortedk j =>
            match xs, kws, h with
            | [y], [⟨some kw, .Name z q, kp⟩], h =>
              unfold chSp at h
              simp only [Bool.and_eq_true, Bool.not_eq_true', decide_eq_true_eq] at h
              obtain ⟨⟨⟨⟨⟨⟨⟨⟨hh, g1⟩, rfl⟩, rfl⟩, g2⟩, g3⟩, g4⟩, g5⟩, g6⟩ := h
              subst hh
              have k := sEs es O g6
              obtain ⟨a, rfl, ha⟩ := k.one y rfl
              cases e1 : G.gf z with
              | none => rw [e1] at g5; cases g5
              | some kk =>
                rw [e1] at g5
                obtain ⟨_, _, hm, _⟩ := O.glo.gf z kk e1
                exact sx_of O rfl (c_sortedk O g1 g2 g3 hm (O.glo.kd kk j g5) g4 (by simpa using es_star g6) (ha.1 rfl))
          | _ => cases h
        | false =>
          rw [if_neg (by rw [hsp]; exact Bool.false_ne_true)] at h
          simp only [Bool.and_eq_true, Bool.not_eq_true', decide_eq_true_eq] at h
          obtain ⟨⟨⟨⟨⟨⟨hk, hh⟩, h1⟩, h2⟩, h3⟩, h4⟩, h5⟩ := h
          obtain rfl := List.isEmpty_iff.mp hk
          subst hh
          subst h2
          obtain ⟨u, hu⟩ := Option.isSome_iff_exists.mp h3
          exact sx_of O rfl (c_bi O h1 hu h4 h5 ((sEs es O h5).pa rfl))
      | _ => cases h
    | _ => cases h
  | .isi a ts, xa, W, hot, N, sc, X, t, e, O, h => by
    cases e with
    | Call fe xs kws p =>
      cases fe with
      | Name x px =>
        match xs, kws, h with
        | [y, z], [], h =>
          unfold chE at h
          simp only [Bool.and_eq_true, decide_eq_true_eq] at h
          obtain ⟨⟨⟨⟨h1, rfl⟩, h2⟩, h3⟩, h4⟩ := h
          have ha := (sE a O h3).1 rfl
          match ts, h4 with
          | [t1], h4 =>
            dsimp only at h4
            split at h4
            case _ c x' p' =>
              simp only [Bool.and_eq_true, beq_iff_eq] at h4
              exact sx_of O rfl (c_isi1 O h1 h2 ha (own_pe O h4.1.1 h4.1.2 h4.2) rfl)
            case _ =>
              simp only [Bool.and_eq_true] at h4
              exact sx_of O rfl (c_isi1 O h1 h2 ha (ty_pe O h4.2 h4.1) rfl)
            case _ => cases h4
          | [], h4 => cases h4
          | t1 :: t2 :: tr, h4 =>
            dsimp only at h4
            cases z with
            | Tuple zs k p2 =>
              dsimp only at h4
              simp only [Bool.and_eq_true, decide_eq_true_eq] at h4
              refine sx_of O rfl (c_isiT O h1 h2 ha (by simp) ?_ h4.1.1 h4.2 h4.1.2)
              exact isi_nc h4.1.1 h4.1.2
            | _ => cases h4
      | _ => cases h
    | _ => cases h
  | .bm b o es, xa, W, hot, N, sc, X, t, e, O, h => by
    cases e with
    | Call fe xs kws p =>
      cases fe with
      | Attribute x y apos =>
        cases kws with
        | nil =>
          unfold chE at h
          simp only [Bool.and_eq_true, Bool.not_eq_true'] at h
          obtain ⟨⟨⟨⟨⟨hh, h1⟩, h2⟩, h3⟩, h4⟩, h5⟩ := h
          subst hh
          have ho := (sE o O h3).1 rfl
          have k := sEs es O h4
          have st := es_star h4
          cases b with
          | append =>
            simp only [Bool.and_eq_true, decide_eq_true_eq] at h5
            obtain ⟨rfl, h6⟩ := h5
            obtain ⟨z, rfl⟩ := List.length_eq_one_iff.mp h6
            exact sx_of O rfl (c_append O h1 h2 (by simpa using st) h4 ho (k.pa rfl))
          | extend =>
            simp only [Bool.and_eq_true, decide_eq_true_eq] at h5
            obtain ⟨rfl, h6⟩ := h5
            obtain ⟨z, rfl⟩ := List.length_eq_one_iff.mp h6
            exact sx_of O rfl (c_extend O h1 h2 (by simpa using st) h4 ho (k.pa rfl))
          | join =>
            simp only [Bool.and_eq_true, decide_eq_true_eq] at h5
            obtain ⟨rfl, h6⟩ := h5
            obtain ⟨z, rfl⟩ := List.length_eq_one_iff.mp h6
            exact sx_of O rfl (c_join O h1 h2 (by simpa using st) h4 ho (k.pa rfl))
          | index =>
            simp only [Bool.and_eq_true, decide_eq_true_eq] at h5
            obtain ⟨rfl, h6⟩ := h5
            obtain ⟨z, rfl⟩ := List.length_eq_one_iff.mp h6
            exact sx_of O rfl (c_index O h1 h2 (by simpa using st) h4 ho (k.pa rfl))
          | split =>
            simp only [Bool.and_eq_true, decide_eq_true_eq] at h5
            obtain ⟨rfl, h6⟩ := h5
            obtain ⟨z, rfl⟩ := List.length_eq_one_iff.mp h6
            exact sx_of O rfl (c_split O h1 h2 (by simpa using st) h4 ho (k.pa rfl))
          | _ => cases h5
        | cons _ _ => cases h
      | _ => cases h
    | _ => cases h
  | .lc elt p it c own, xa, W, hot, N, sc, X, t, e, O, h => by
    cases e with
    | ListComp x gs scope pos =>
      match gs, h with
      | [⟨tg, iter, ifs, 0⟩], h =>
        unfold chE at h
        simp only [Bool.and_eq_true, Bool.not_eq_true', decide_eq_true_eq] at h
        obtain ⟨⟨⟨⟨⟨⟨⟨⟨hh, h1⟩, h2⟩, h3⟩, h4⟩, h5⟩, h6⟩, h7⟩, h8⟩ := h
        subst hh
        refine sx_of O rfl (c_lc O h1 (fun i hi => ?_) h3 h4 (sI it O h5) (fun X' O' => (sE elt O' h6).1 rfl) (fun X' O' => ?_))
        · have := List.all_eq_true.mp h2 i hi
          simpa using this
        · have k := sEs c O' h7
          match ifs, k, h8 with
          | [], k, _ => rw [k.nil rfl]; exact tc_nil
          | [l], k, _ =>
            obtain ⟨a, rfl, ha⟩ := k.one l rfl
            exact tc_one (ha.2 rfl)
          | _ :: _ :: _, _, h8 => exact absurd h8 (by simp)
    | _ => cases h
  | .nil, xa, W, hot, N, sc, X, t, e, O, h => by cases e <;> cases h
  | .cons _ _, xa, W, hot, N, sc, X, t, e, O, h => by cases e <;> cases h
  | .iseq _, xa, W, hot, N, sc, X, t, e, O, h => by cases e <;> cases h
  | .irange1 _, xa, W, hot, N, sc, X, t, e, O, h => by cases e <;> cases h
  | .irange2 _ _, xa, W, hot, N, sc, X, t, e, O, h => by cases e <;> cases h
  | .ienum _, xa, W, hot, N, sc, X, t, e, O, h => by cases e <;> cases h
  | .izip _ _, xa, W, hot, N, sc, X, t, e, O, h => by cases e <;> cases h
  | .iitems _, xa, W, hot, N, sc, X, t, e, O, h => by cases e <;> cases h
  | .ivalues _, xa, W, hot, N, sc, X, t, e, O, h => by cases e <;> cases h
  | .ikeys _, xa, W, hot, N, sc, X, t, e, O, h => by cases e <;> cases h
termination_by structural x => x
theorem sEs : ∀ (x : Ev.E) {xa : Xa} {W : WX} {hot : Bool} {N : List Str} {sc : Scope} {X : Cx} {t : Bool} {xs : List Expr}, Okx G xa W n hot N sc X → chEs G hot N x t sc xs = true → EsOk G xa W n X t xs x
  | .nil, xa, W, hot, N, sc, X, t, xs, O, h => by
    cases xs with
    | nil => exact ⟨fun _ => a_nil, fun l e => (by cases e), fun _ => rfl, fun _ ne => absurd rfl ne, fun _ ne => absurd rfl ne, fun _ ne => absurd rfl ne, fun _ ne => absurd rfl ne⟩
    | cons _ _ => cases h
  | .cons a b, xa, W, hot, N, sc, X, t, xs, O, h => by
    cases xs with
    | nil => cases h
    | cons e es =>
      unfold chEs at h
      simp only [Bool.and_eq_true] at h
      have ha := sE a O h.1.2
      have hb := sEs b O h.2
      refine ⟨fun et => a_cons h.1.1 (ha.1 et) (hb.pa et), fun l el => ?_, fun el => (by cases el), fun et _ pos => ?_, fun et _ pos => ?_, fun et _ pos => ?_, fun et _ pos => ?_⟩
      · cases el
        rw [hb.nil rfl]
        exact ⟨a, rfl, ha⟩
      · cases es with
        | nil => rw [hb.nil rfl]; exact an_one (ha.1 et)
        | cons q rest =>
          obtain ⟨x, y, rfl⟩ := cons_of h.2
          exact an_cons O (ha.1 et) (hb.an et (by simp) pos)
      · cases es with
        | nil => rw [hb.nil rfl]; exact on_one (ha.1 et)
        | cons q rest =>
          obtain ⟨x, y, rfl⟩ := cons_of h.2
          exact on_cons O (ha.1 et) (hb.on et (by simp) pos)
      · cases es with
        | nil => rw [hb.nil rfl]; exact ant_one (ha.2 et)
        | cons q rest =>
          obtain ⟨x, y, rfl⟩ := cons_of h.2
          exact ant_cons (ha.2 et) (hb.ant et (by simp) pos)
      · cases es with
        | nil => rw [hb.nil rfl]; exact ont_one (ha.2 et)
        | cons q rest =>
          obtain ⟨x, y, rfl⟩ := cons_of h.2
          exact ont_cons (ha.2 et) (hb.ont et (by simp) pos)
  | .var _, xa, W, hot, N, sc, X, t, xs, O, h => by cases h
  | .con _, xa, W, hot, N, sc, X, t, xs, O, h => by cases h
  | .glb _, xa, W, hot, N, sc, X, t, xs, O, h => by cases h
  | .fnv _, xa, W, hot, N, sc, X, t, xs, O, h => by cases h
  | .bin _ _ _, xa, W, hot, N, sc, X, t, xs, O, h => by cases h
  | .neg _, xa, W, hot, N, sc, X, t, xs, O, h => by cases h
  | .cmp _ _ _, xa, W, hot, N, sc, X, t, xs, O, h => by cases h
  | .chain _ _ _ _ _, xa, W, hot, N, sc, X, t, xs, O, h => by cases h
  | .not _, xa, W, hot, N, sc, X, t, xs, O, h => by cases h
  | .and _, xa, W, hot, N, sc, X, t, xs, O, h => by cases h
  | .or _, xa, W, hot, N, sc, X, t, xs, O, h => by cases h
  | .ife _ _ _, xa, W, hot, N, sc, X, t, xs, O, h => by cases h
  | .tup _, xa, W, hot, N, sc, X, t, xs, O, h => by cases h
  | .lst _, xa, W, hot, N, sc, X, t, xs, O, h => by cases h
  | .dic _ _, xa, W, hot, N, sc, X, t, xs, O, h => by cases h
  | .ix _ _, xa, W, hot, N, sc, X, t, xs, O, h => by cases h
  | .sl _ _ _, xa, W, hot, N, sc, X, t, xs, O, h => by cases h
  | .call _ _, xa, W, hot, N, sc, X, t, xs, O, h => by cases h
  | .mk _ _, xa, W, hot, N, sc, X, t, xs, O, h => by cases h
  | .meth _ _ _, xa, W, hot, N, sc, X, t, xs, O, h => by cases h
  | .fld _ _, xa, W, hot, N, sc, X, t, xs, O, h => by cases h
  | .bi _ _, xa, W, hot, N, sc, X, t, xs, O, h => by cases h
  | .isi _ _, xa, W, hot, N, sc, X, t, xs, O, h => by cases h
  | .bm _ _ _, xa, W, hot, N, sc, X, t, xs, O, h => by cases h
  | .lc _ _ _ _ _, xa, W, hot, N, sc, X, t, xs, O, h => by cases h
  | .iseq _, xa, W, hot, N, sc, X, t, xs, O, h => by cases h
  | .irange1 _, xa, W, hot, N, sc, X, t, xs, O, h => by cases h
  | .irange2 _ _, xa, W, hot, N, sc, X, t, xs, O, h => by cases h
  | .ienum _, xa, W, hot, N, sc, X, t, xs, O, h => by cases h
  | .izip _ _, xa, W, hot, N, sc, X, t, xs, O, h => by cases h
  | .iitems _, xa, W, hot, N, sc, X, t, xs, O, h => by cases h
  | .ivalues _, xa, W, hot, N, sc, X, t, xs, O, h => by cases h
  | .ikeys _, xa, W, hot, N, sc, X, t, xs, O, h => by cases h
termination_by structural x => x
theorem sI : ∀ (x : Ev.E) {xa : Xa} {W : WX} {hot : Bool} {N : List Str} {sc : Scope} {X : Cx} {tg e : Expr}, Okx G xa W n hot N sc X → chI G hot N x sc e (isTupE tg) = true → PI X tg e (tI G xa W n x)
  | .iseq a, xa, W, hot, N, sc, X, tg, e, O, h => i_seq O ((sE a O h).1 rfl)
  | .irange1 a, xa, W, hot, N, sc, X, tg, e, O, h => by
    cases e with
    | Call fe xs kws p =>
      cases fe with
      | Name x px =>
        match xs, kws, h with
        | [y], [], h =>
          unfold chI at h
          simp only [Bool.and_eq_true, decide_eq_true_eq] at h
          obtain ⟨⟨⟨h1, rfl⟩, h2⟩, h3⟩ := h
          exact i_range1 O h1 h2 ((sE a O h3).1 rfl)
      | _ => cases h
    | _ => cases h
  | .irange2 a b, xa, W, hot, N, sc, X, tg, e, O, h => by
    cases e with
    | Call fe xs kws p =>
      cases fe with
      | Name x px =>
        match xs, kws, h with
        | [y, z], [], h =>
          unfold chI at h
          simp only [Bool.and_eq_true, decide_eq_true_eq] at h
          obtain ⟨⟨⟨⟨⟨h1, rfl⟩, h2⟩, h3⟩, h4⟩, h5⟩ := h
          exact i_range2 O h1 h2 h3 ((sE a O h4).1 rfl) ((sE b O h5).1 rfl)
      | _ => cases h
    | _ => cases h
  | .ienum a, xa, W, hot, N, sc, X, tg, e, O, h => by
    cases e with
    | Call fe xs kws p =>
      cases fe with
      | Name x px =>
        match xs, kws, h with
        | [y], [], h =>
          unfold chI at h
          simp only [Bool.and_eq_true, decide_eq_true_eq] at h
          obtain ⟨⟨⟨⟨h0, h1⟩, rfl⟩, h2⟩, h3⟩ := h
          cases tg with
          | Tuple es k p => exact i_enum O h1 h2 ((sE a O h3).1 rfl)
          | _ => cases h0
      | _ => cases h
    | _ => cases h
  | .izip a b, xa, W, hot, N, sc, X, tg, e, O, h => by
    cases e with
    | Call fe xs kws p =>
      cases fe with
      | Name x px =>
        match xs, kws, h with
        | [y, z], [], h =>
          unfold chI at h
          simp only [Bool.and_eq_true, decide_eq_true_eq] at h
          obtain ⟨⟨⟨⟨⟨⟨h0, h1⟩, rfl⟩, h2⟩, h3⟩, h4⟩, h5⟩ := h
          cases tg with
          | Tuple es k p => exact i_zip O h1 h2 h3 ((sE a O h4).1 rfl) ((sE b O h5).1 rfl)
          | _ => cases h0
      | _ => cases h
    | _ => cases h
  | .nil, xa, W, hot, N, sc, X, tg, e, O, h => by cases h
  | .cons _ _, xa, W, hot, N, sc, X, tg, e, O, h => by cases h
  | .var _, xa, W, hot, N, sc, X, tg, e, O, h => by cases h
  | .con _, xa, W, hot, N, sc, X, tg, e, O, h => by cases h
  | .glb _, xa, W, hot, N, sc, X, tg, e, O, h => by cases h
  | .fnv _, xa, W, hot, N, sc, X, tg, e, O, h => by cases h
  | .bin _ _ _, xa, W, hot, N, sc, X, tg, e, O, h => by cases h
  | .neg _, xa, W, hot, N, sc, X, tg, e, O, h => by cases h
  | .cmp _ _ _, xa, W, hot, N, sc, X, tg, e, O, h => by cases h
  | .chain _ _ _ _ _, xa, W, hot, N, sc, X, tg, e, O, h => by cases h
  | .not _, xa, W, hot, N, sc, X, tg, e, O, h => by cases h
  | .and _, xa, W, hot, N, sc, X, tg, e, O, h => by cases h
  | .or _, xa, W, hot, N, sc, X, tg, e, O, h => by cases h
  | .ife _ _ _, xa, W, hot, N, sc, X, tg, e, O, h => by cases h
  | .tup _, xa, W, hot, N, sc, X, tg, e, O, h => by cases h
  | .lst _, xa, W, hot, N, sc, X, tg, e, O, h => by cases h
  | .dic _ _, xa, W, hot, N, sc, X, tg, e, O, h => by cases h
  | .ix _ _, xa, W, hot, N, sc, X, tg, e, O, h => by cases h
  | .sl _ _ _, xa, W, hot, N, sc, X, tg, e, O, h => by cases h
  | .call _ _, xa, W, hot, N, sc, X, tg, e, O, h => by cases h
  | .mk _ _, xa, W, hot, N, sc, X, tg, e, O, h => by cases h
  | .meth _ _ _, xa, W, hot, N, sc, X, tg, e, O, h => by cases h
  | .fld _ _, xa, W, hot, N, sc, X, tg, e, O, h => by cases h
  | .bi _ _, xa, W, hot, N, sc, X, tg, e, O, h => by cases h
  | .isi _ _, xa, W, hot, N, sc, X, tg, e, O, h => by cases h
  | .bm _ _ _, xa, W, hot, N, sc, X, tg, e, O, h => by cases h
  | .lc _ _ _ _ _, xa, W, hot, N, sc, X, tg, e, O, h => by cases h
  | .iitems _, xa, W, hot, N, sc, X, tg, e, O, h => by cases h
  | .ivalues _, xa, W, hot, N, sc, X, tg, e, O, h => by cases h
  | .ikeys _, xa, W, hot, N, sc, X, tg, e, O, h => by cases h
termination_by structural x => x
end
end
end EvS
/-! EvS: statements. -/
namespace EvS
open PySem PySem.Spec PyProof.Rows L2
open Ev (U AO AH DK)

/-- what must hold so that a statement's outcome leads to where it is to lead -/
def PF (G : Sig) (xa : Xa) (W : WX) (o : Ev.F) (r : List Addr) (H : Hp) (D : Ends) : Prop :=
  match o with
  | .nx e h => ∀ r1 H1 s1, Ex r H r1 H1 → RS G xa r1 h H1 → REn G xa r1 H1 e s1 → D.nx s1 H1
  | .rt u h => ∀ r1 H1 v, Ex r H r1 H1 → RS G xa r1 h H1 → RU G xa r1 H1 u v → D.rt v H1
  | .bk e h => ∀ r1 H1 s1, Ex r H r1 H1 → RS G xa r1 h H1 → REn G xa r1 H1 e s1 → D.bk s1 H1
  | .ct e h => ∀ r1 H1 s1, Ex r H r1 H1 → RS G xa r1 h H1 → REn G xa r1 H1 e s1 → D.ct s1 H1
  | .exc c xs e h => ∀ r1 H1 s1 cls d, Ex r H r1 H1 → RS G xa r1 h H1 → REn G xa r1 H1 e s1 → XR G xa r1 H1 c xs cls d → W cls d s1 H1
  | .bad => False
def tS (G : Sig) (xa : Xa) (W : WX) (n : Nat) (st : Ev.S) : TS := fun D s H => ∃ (r : List Addr) (e : Ev.Env) (h : AH), RS G xa r h H ∧ REn G xa r H e s ∧ PF G xa W (Ev.evS G.Γ (Ev.callF G.Γ G.T n) st e h) r H D
theorem PS.imp {X : Cx} {st : Stmt} {t t' : TS} (h : PS X st t) (k : ∀ D s H, t' D s H → t D s H) : PS X st t' := ⟨fun pins s σ H D I q => h.run pins s σ H D I (k D σ H q)⟩
theorem PSs.imp {X : Cx} {st : List Stmt} {t t' : TS} (h : PSs X st t) (k : ∀ D s H, t' D s H → t D s H) : PSs X st t' := ⟨fun pins s σ H D I q => h.run pins s σ H D I (k D σ H q)⟩
theorem PS.or {X : Cx} {st : Stmt} {t t' : TS} (h : PS X st t) (h' : PS X st t') : PS X st (fun D s H => t D s H ∨ t' D s H) := ⟨fun pins s σ H D I q => q.elim (h.run pins s σ H D I) (h'.run pins s σ H D I)⟩
section
variable {G : Sig} {xa : Xa} {W : WX} {n : Nat} {hot : Bool} {N : List Str} {sc : Scope} {X : Cx} {pos : Pos}
theorem PF.mono {o : Ev.F} {r r1 : List Addr} {H H1 : Hp} {D : Ends} (x : Ex r H r1 H1) (p : PF G xa W o r H D) : PF G xa W o r1 H1 D := by
  cases o with
  | nx e h => exact fun r2 H2 s X R E => p r2 H2 s (x.trans X) R E
  | rt u h => exact fun r2 H2 s X R E => p r2 H2 s (x.trans X) R E
  | bk e h => exact fun r2 H2 s X R E => p r2 H2 s (x.trans X) R E
  | ct e h => exact fun r2 H2 s X R E => p r2 H2 s (x.trans X) R E
  | exc c xs e h => exact fun r2 H2 s cls d X R E => p r2 H2 s cls d (x.trans X) R E
  | bad => exact p
theorem PF.nxI {e : Ev.Env} {h : AH} {r : List Addr} {H : Hp} {D : Ends} {s : L2.St} (p : PF G xa W (.nx e h) r H D) (R : RS G xa r h H) (E : REn G xa r H e s) : D.nx s H := p r H s (Ex.refl _ _) R E
/-- an expression first -/
theorem tE_ofR {x : Ev.E} {f : U → AH → Ev.F} {D : Ends} {Q1 : VK} {r : List Addr} {e : Ev.Env} {h : AH} {s : L2.St} {H : Hp} (R : RS G xa r h H) (E : REn G xa r H e s)
    (p : PF G xa W (Ev.F.ofR (evE G n x e h) e f) r H D)
    (k : ∀ r1 H1 u v h1, evE G n x e h = .ok u h1 → Ex r H r1 H1 → RS G xa r1 h1 H1 → REn G xa r1 H1 e s → RU G xa r1 H1 u v → PF G xa W (f u h1) r1 H1 D → Q1 v H1) : tE G xa W n x s H Q1 := by
  refine ⟨r, e, h, R, E, ?_⟩
  cases z : evE G n x e h with
  | ok u h1 =>
    rw [z] at p
    exact fun r1 H1 v X1 R1 k1 => k r1 H1 u v h1 z X1 R1 (E.mono X1) k1 (PF.mono X1 p)
  | exc c xs h1 =>
    rw [z] at p
    exact fun r1 H1 cls d X1 R1 k1 => p r1 H1 s cls d X1 R1 (E.mono X1) k1
  | bad =>
    rw [z] at p
    exact p
theorem tT_ofR {x : Ev.E} {f : Bool → AH → Ev.F} {D : Ends} {Q1 : Bool → Hp → Prop} {r : List Addr} {e : Ev.Env} {h : AH} {s : L2.St} {H : Hp} (R : RS G xa r h H) (E : REn G xa r H e s)
    (p : PF G xa W (Ev.F.ofR (Ev.truR (evE G n x e h)) e f) r H D)
    (k : ∀ r1 H1 u h1, Ex r H r1 H1 → RS G xa r1 h1 H1 → REn G xa r1 H1 e s → PF G xa W (f u h1) r1 H1 D → Q1 u H1) : tT G xa W n x s H Q1 := by
  refine ⟨r, e, h, R, E, ?_⟩
  cases z : Ev.truR (evE G n x e h) with
  | ok u h1 =>
    rw [z] at p
    intro r1 H1 v X1 R1 k1
    cases (show u = v from k1)
    exact k r1 H1 u h1 X1 R1 (E.mono X1) (PF.mono X1 p)
  | exc c xs h1 =>
    rw [z] at p
    exact fun r1 H1 cls d X1 R1 k1 => p r1 H1 s cls d X1 R1 (E.mono X1) k1
  | bad =>
    rw [z] at p
    exact p
theorem s_nil : PSs X [] (tS G xa W n .nil) := PSs.imp pss_nil fun D s H ⟨r, e, h, R, E, p⟩ => by
  unfold Ev.evS at p
  exact p.nxI R E
theorem s_cons {st : Stmt} {rest : List Stmt} {a b : Ev.S} (ha : PS X st (tS G xa W n a)) (hb : PSs X rest (tS G xa W n b)) : PSs X (st :: rest) (tS G xa W n (.cons a b)) := by
  refine PSs.imp (pss_cons ha hb) fun D s H ⟨r, e, h, R, E, p⟩ => ⟨r, e, h, R, E, ?_⟩
  unfold Ev.evS at p
  cases z : Ev.evS G.Γ (Ev.callF G.Γ G.T n) a e h with
  | nx e1 h1 =>
    rw [z] at p
    exact fun r1 H1 s1 X1 R1 E1 => ⟨r1, e1, h1, R1, E1, PF.mono X1 p⟩
  | rt u h1 => rw [z] at p; exact p
  | bk e1 h1 => rw [z] at p; exact p
  | ct e1 h1 => rw [z] at p; exact p
  | exc c xs e1 h1 => rw [z] at p; exact p
  | bad => rw [z] at p; exact p
theorem s_pas : PS X (.Pass pos) (tS G xa W n .pas) := PS.imp ps_pass fun D s H ⟨r, e, h, R, E, p⟩ => by
  unfold Ev.evS at p
  exact p.nxI R E
theorem s_brk : PS X (.Break pos) (tS G xa W n .brk) := PS.imp ps_break fun D s H ⟨r, e, h, R, E, p⟩ => by
  unfold Ev.evS at p
  exact p r H s (Ex.refl _ _) R E
theorem s_cnt : PS X (.Continue pos) (tS G xa W n .cnt) := PS.imp ps_continue fun D s H ⟨r, e, h, R, E, p⟩ => by
  unfold Ev.evS at p
  exact p r H s (Ex.refl _ _) R E
theorem s_ret0 : PS X (.Return none pos) (tS G xa W n .ret0) := PS.imp ps_retN fun D s H ⟨r, e, h, R, E, p⟩ => by
  unfold Ev.evS at p
  exact p r H .non (Ex.refl _ _) R rfl
theorem s_ret {x : Ev.E} {l : Expr} (ha : PE X l (tE G xa W n x)) : PS X (.Return (some l) pos) (tS G xa W n (.ret x)) := PS.imp (ps_ret ha) fun D s H ⟨r, e, h, R, E, p⟩ => by
  unfold Ev.evS at p
  exact tE_ofR R E p fun r1 H1 u v h1 z X1 R1 E1 k1 p1 => p1 r1 H1 v (Ex.refl _ _) R1 k1
theorem s_ex {x : Ev.E} {l : Expr} (hn : noComp l = true) (ha : PE X l (tE G xa W n x)) : PS X (.Expr l pos) (tS G xa W n (.ex x)) := PS.imp (ps_expr ha (swap_no hn)) fun D s H ⟨r, e, h, R, E, p⟩ => by
  unfold Ev.evS at p
  exact tE_ofR R E p fun r1 H1 u v h1 z X1 R1 E1 k1 p1 => p1.nxI R1 E1
theorem s_if {x : Ev.E} {a b : Ev.S} {c : Expr} {la lb : List Stmt} (hc : PT X c (tT G xa W n x)) (ha : PSs X la (tS G xa W n a)) (hb : PSs X lb (tS G xa W n b)) : PS X (.If c la lb pos) (tS G xa W n (.ifs x a b)) := by
  refine PS.imp (ps_if hc ha hb) fun D s H ⟨r, e, h, R, E, p⟩ => ?_
  unfold Ev.evS at p
  refine tT_ofR R E p fun r1 H1 u h1 X1 R1 E1 p1 => ?_
  cases u with
  | true => exact iteT ⟨r1, e, h1, R1, E1, p1⟩
  | false => exact iteF ⟨r1, e, h1, R1, E1, p1⟩
/-- name = e -/
theorem s_set {i : Nat} {y : Str} {py : Pos} {x : Ev.E} {l : Expr} (hN : X.N = N) (nd : N.Nodup) (hsc : X.env.scope = sc) (hi : N[i]? = some y) (hy : lcB sc y = true) (hfn : ∀ y, X.fn y = true) (hn : ∀ ln env, env = X.env → swapsWith l (some (.Name y py)) ln env = pure false) (ha : PE X l (tE G xa W n x)) :
    PS X (.Assign [.Name y py] l pos) (tS G xa W n (.asg (.name i) x)) := by
  have hl : Loc X.env.scope y := by rw [hsc]; exact lcB_ok hy
  refine PS.imp (ps_set (by rw [hN]; exact nd) (by rw [hN]; exact hi) hl ha (hn _ _ rfl) (.inl (hfn y))) fun D s H ⟨r, e, h, R, E, p⟩ => ?_
  unfold Ev.evS at p
  exact tE_ofR R E p fun r1 H1 u v h1 z X1 R1 E1 k1 p1 => p1.nxI R1 (E1.set k1)
/-- a name that a comprehension takes is not swapped -/
theorem sw_cell {elt : Expr} {gs : List Comprehension} {scope : Scope} {pos py : Pos} {y : Str} {l : Nat} {env : Env} (hy : env.scope.names.lookup y = some .cell) : swapsWith (.ListComp elt gs scope pos) (some (.Name y py)) l env = pure false := by
  have ky : env.kindOf y = some .cell := hy
  unfold swapsWith
  simp only [ky]
  have e : (some NameKind.cell == some NameKind.local) = false := by decide
  simp only [e, Bool.and_false, Bool.false_and]
def noTup : Expr → Bool
  | .Tuple _ _ _ => false
  | _ => true
theorem stores_no {ts : List Expr} {l : Expr} {env : Env} (h : noTup l = true) : swappedStores ts l env = pure none := by
  unfold swappedStores
  split
  · rename_i h2
    split at h2
    · cases h
    · cases h
    · cases h2
  · rfl
/-- (a, b, ..) = e -/
theorem s_asg {ps : Ev.P} {es : List Expr} {k : _} {tp : Pos} {x : Ev.E} {l : Expr} (hN : X.N = N) (nd : N.Nodup) (hsc : X.env.scope = sc) (hK : X.K = G.K) (hc : X.calm = true) (hfn : ∀ y, X.fn y = true) (hp : chP N true sc (.tup ps) (.Tuple es k tp) = true) (ht : noTup l = true) (ha : PE X l (tE G xa W n x)) :
    PS X (.Assign [.Tuple es k tp] l pos) (tS G xa W n (.asg (.tup ps) x)) := by
  refine PS.imp (ps_asg ha (p_any (xa := xa) hN nd hsc hK hc (cl := true) (fun _ => hfn) (.tup ps) _ hp) (by
    show swapsWith l (some (.Tuple es k tp)) pos.line X.env = pure false
    cases l <;> rfl) (stores_no ht)) fun D s H ⟨r, e, h, R, E, p⟩ => ?_
  unfold Ev.evS at p
  refine tE_ofR R E p fun r1 H1 u v h1 z X1 R1 E1 k1 p1 => ?_
  split at p1
  case _ e1 ez => exact ⟨r1, e, e1, h1, u, R1, E1, k1, ez, fun σ' E' _ => p1.nxI R1 E'⟩
  case _ => exact p1.elim
/-- name = [..] on one line -/
theorem lc_rd {a it c : Ev.E} {p : Ev.P} {own : List Nat} (hsl : ∀ i ∈ slots p, i ∈ own) {s : L2.St} {H : Hp} {Q : VK} (q0 : tE G xa W n (.lc a p it c own) s H Q) : tLc (tI G xa W n it) (tP G xa p) (tC G xa fls n c) (tE G xa fls n a) own s H Q := by
  obtain ⟨r, e, h, R, E, q⟩ := q0
  unfold evE Ev.evE at q
  refine ⟨r, e, h, R, E, ?_⟩
  cases z : Ev.evIt G.Γ (Ev.callF G.Γ G.T n) it e h with
  | exc c xs h1 => rw [z] at q; exact q
  | bad => rw [z] at q; exact q.elim
  | ok t h1 =>
    rw [z] at q
    simp only [Ev.R.bind] at q
    cases z2 : t.lk with
    | some _ => rw [z2] at q; exact q.elim
    | none =>
      rw [z2] at q
      refine ⟨z2, fun r1 H1 J X1 R1 J1 D hD => ?_⟩
      dsimp only at q
      split at q
      case _ uu h2 e2 => exact lc_walk (h2 := h2) R1 (E.mono X1) J1 hD hsl e2 fun r2 H2 X2 R2 hd => q r2 H2 (.ref D) (X1.trans X2) R2 ⟨D, hd, rfl⟩
      case _ => exact q.elim
theorem s_setLc {i : Nat} {y : Str} {py : Pos} {a it c : Ev.E} {p : Ev.P} {own : List Nat} {x tg iter : Expr} {ifs : List Expr} {scope : Scope} {pos2 : Pos} (O : Okx G xa W n false N sc X) (hi : N[i]? = some y) (hy : locB sc y = true) (hl : (py.line == pos2.line) = true)
    (hkk : sc.kind = .function) (hno : (scope.names.any fun (n, k) => n == y && (k == .local || k == .cell)) = false)
    (hb : blkC N sc scope (own.map fun i => (N.getD i "", i)) = true) (hsl : ∀ i ∈ slots p, i ∈ own)
    (hP : chP N false (relS scope sc) p tg = true) (hset : noSet iter = true) (hii : PI X tg iter (tI G xa W n it))
    (he : ∀ X', Okx G none fls n false N (relS scope sc) X' → PE X' x (tE G none fls n a)) (hc : ∀ X', Okx G none fls n false N (relS scope sc) X' → PTs X' ifs (tC G none fls n c)) :
    PS X (.Assign [.Name y py] (.ListComp x [⟨tg, iter, ifs, 0⟩] scope pos2) pos) (tS G xa W n (.asg (.name i) (.lc a p it c own))) := by
  obtain ⟨cm, hr, tk, hx⟩ := O.cold rfl
  subst hx
  have ob : BlkOk X.N X.env.scope scope (own.map fun i => (N.getD i "", i)) := by rw [O.hN, O.hsc]; exact blkOk_by hb
  have hlo : X.env.scope.names.lookup y = some .local := by rw [O.hsc]; exact locB_ok hy
  refine PS.imp (ps_setLc (spos := pos) (pos := pos2) cm (by rw [O.hN]; exact O.nd) (by rw [O.hN]; exact hi) hlo (sw_true (by rw [O.hsc]; exact hkk) hlo hl hno) hii ob (fun s H C cl fp => p_any (X := X.blk s H scope (compEnvC scope cl C X.env) fp) (G := G) (xa := none) (N := N) (sc := relS scope sc) O.hN O.nd (O.blk scope s H C cl fp).hsc O.glo.hK cm (cl := false) (fun h => by cases h) p tg hP)
    (fun s H C cl fp => hc _ (O.blk scope s H C cl fp)) (fun s H C cl fp => he _ (O.blk scope s H C cl fp)) (fold_no hset)) fun D s H ⟨r, e, h, R, E, q⟩ => ?_
  have eo : (own.map fun i => (N.getD i "", i)).map (·.2) = own := by rw [List.map_map]; exact List.map_id own
  rw [eo]
  unfold Ev.evS at q
  exact lc_rd hsl (tE_ofR R E q fun r1 H1 u v h1 z X1 R1 E1 k1 p1 => p1.nxI R1 (E1.set k1))
/-- o.f = e -/
theorem swap_other {l t : Expr} {ln : Nat} {env : Env} (h : ∀ y p, t ≠ .Name y p) : swapsWith l (some t) ln env = pure false := by
  cases t with
  | Name y p => exact absurd rfl (h y p)
  | _ => cases l <;> rfl
theorem putF_rel {r : List Addr} {H : Hp} (nd : G.an.Nodup) {f : Nat} {y : Str} (hy : G.an[f]? = some y) {u : U} {v : V} (k : RU G xa r H u v) : ∀ {fs : List (Nat × U)} {gs : List (Str × V)}, RFs G xa r H fs gs → RFs G xa r H (Ev.putF f u fs) (putF y v gs)
  | [], _, h => by
    cases h
    exact .cons ⟨hy, k⟩ .nil
  | (f', u') :: fs, _, h => by
    cases h with
    | @cons p q _ gs hq hr =>
      obtain ⟨y', v'⟩ := q
      unfold Ev.putF putF
      by_cases e : f' = f
      · subst e
        have : y' = y := by
          have := hq.1
          rw [hy] at this
          exact (Option.some.inj this).symm
        subst this
        rw [if_pos rfl, if_pos rfl]
        exact Paired.cons (F := fun (p : Nat × U) (q : Str × V) => G.an[p.1]? = some q.1 ∧ RU G xa r H p.2 q.2) (a := (f', u)) (b := (y', v)) ⟨hy, k⟩ hr
      · have ne : y' ≠ y := fun z => by
          subst z
          have k1 : f' < G.an.length := (List.getElem?_eq_some_iff.mp hq.1).1
          exact e ((List.getElem?_inj k1 nd).mp (hq.1.trans hy.symm))
        rw [if_neg (show ¬ (f', u').1 = f from e), if_neg ne]
        exact Paired.cons (F := fun (p : Nat × U) (q : Str × V) => G.an[p.1]? = some q.1 ∧ RU G xa r H p.2 q.2) (a := (f', u')) (b := (y', v')) hq (putF_rel nd hy k hr)
theorem s_fld {f : Nat} {y : Str} {o x : Ev.E} {lo l : Expr} {p2 : Pos} (O : Okx G xa W n hot N sc X) (hy : G.an[f]? = some y) (ho : PE X lo (tE G xa W n o)) (ha : PE X l (tE G xa W n x)) : PS X (.Assign [.Attribute lo y p2] l pos) (tS G xa W n (.afld o f x)) := by
  refine PS.imp (ps_fld ho ha (swap_other (by intro y p h; cases h))) fun D s H ⟨r, e, h, R, E, p⟩ => ?_
  unfold Ev.evS at p
  refine tE_ofR R E p fun r1 H1 u v h1 z X1 R1 E1 k1 p1 => tE_ofR R1 E1 p1 fun r2 H2 w v2 h2 z2 X2 R2 E2 k2 p2 => ?_
  split at p2
  case _ m =>
    split at p2
    case _ c fs e1 =>
      split at p2
      case isTrue hfl =>
        obtain ⟨a, dx, gs, rfl, ra, t1, k3⟩ := R2.insR e1 k2
        obtain ⟨f1, f2⟩ := O.glo.fl c f hfl.1
        have hlen : gs.length < 1000 := by rw [← k3.length]; omega
        refine ⟨a, G.ca c, dx, gs, rfl, t1, f1, f2 y hy, hlen, ?_⟩
        have X3 : Ex r2 H2 r2 (upd H2 a (.ins (G.ca c) dx (putF y v gs))) := ex_write t1 trivial
        have R3 : RS G xa r2 (h2.set m (.ins c (Ev.putF f u fs))) (upd H2 a (.ins (G.ca c) dx (putF y v gs))) := R2.write ra t1 trivial (RO.mono X3 (o := .ins c (Ev.putF f u fs)) (u := .ins (G.ca c) dx (putF y v gs)) ⟨dx, _, rfl, putF_rel O.glo.an hy (k1.mono X2) k3⟩)
        exact p2 r2 _ s X3 R3 (E2.mono X3)
      case isFalse => exact p2.elim
    case _ => exact p2.elim
  case _ => exact p2.elim
/-- name op= e -/
theorem s_aug {i : Nat} {y : Str} {py : Pos} {x : Ev.E} {l : Expr} {op : Ev.BOp} {o : Operator} (hN : X.N = N) (nd : N.Nodup) (hsc : X.env.scope = sc) (hi : N[i]? = some y) (hy : lcB sc y = true) (hfn : ∀ y, X.fn y = true) (hop : (op = .add ∧ o = .Add) ∨ (op = .sub ∧ o = .Sub)) (ha : PE X l (tE G xa W n x)) :
    PS X (.AugAssign (.Name y py) o l pos) (tS G xa W n (.aug i op x)) := by
  have hl : Loc X.env.scope y := by rw [hsc]; exact lcB_ok hy
  rcases hop with ⟨rfl, rfl⟩ | ⟨rfl, rfl⟩
  · refine PS.imp (ps_aug (by rw [hN]; exact nd) (by rw [hN]; exact hi) hl ha ip_add (.inl (hfn y))) fun D s H ⟨r, e, h, R, E, p⟩ => ?_
    unfold Ev.evS at p
    split at p
    case _ a ea =>
      obtain ⟨va, e1, k⟩ := E.2 i _ ea
      cases k
      refine ⟨_, e1, tE_ofR R E p fun r1 H1 u v h1 z X1 R1 E1 k1 p1 => ?_⟩
      cases u with
      | int b =>
        cases k1
        exact ⟨a, b, rfl, rfl, p1.nxI R1 (E1.set (u := .int (a + b)) (v := .int (a + b)) rfl)⟩
      | _ => exact p1.elim
    case _ => exact p.elim
  · refine PS.imp (ps_aug (by rw [hN]; exact nd) (by rw [hN]; exact hi) hl ha ip_sub (.inl (hfn y))) fun D s H ⟨r, e, h, R, E, p⟩ => ?_
    unfold Ev.evS at p
    split at p
    case _ a ea =>
      obtain ⟨va, e1, k⟩ := E.2 i _ ea
      cases k
      refine ⟨_, e1, tE_ofR R E p fun r1 H1 u v h1 z X1 R1 E1 k1 p1 => ?_⟩
      cases u with
      | int b =>
        cases k1
        exact ⟨a, b, rfl, rfl, p1.nxI R1 (E1.set (u := .int (a - b)) (v := .int (a - b)) rfl)⟩
      | _ => exact p1.elim
    case _ => exact p.elim
end
end EvS
/-! EvT: stores, loops. -/
namespace EvS
open PySem PySem.Spec PyProof.Rows L2
open Ev (U AO AH DK)
section
variable {G : Sig} {xa : Xa} {W : WX} {n : Nat} {hot : Bool} {N : List Str} {sc : Scope} {X : Cx} {pos : Pos}
theorem RKv.any {r : List Addr} {H : Hp} {k : DK} : ∀ {kvs : List (DK × U)} {ks : List (Key × V)}, RKv G xa r H kvs ks → (ks.any fun kv => decide (kv.1 = mkK k)) = (kvs.any fun kv => decide (kv.1 = k))
  | [], _, h => by cases h; rfl
  | p :: kvs, _, h => by
    cases h with
    | @cons _ q _ ks hq hr =>
      rw [List.any_cons, List.any_cons, RKv.any hr]
      have : decide (q.1 = mkK k) = decide (p.1 = k) := by
        rw [hq.1]
        by_cases e : p.1 = k
        · rw [e]; simp
        · have : ¬ mkK p.1 = mkK k := fun z => e (mkK_inj z)
          simp [e, this]
      rw [this]
theorem RKv.mapd {r : List Addr} {H : Hp} {k : DK} {u : U} {v : V} (hv : RU G xa r H u v) : ∀ {kvs : List (DK × U)} {ks : List (Key × V)}, RKv G xa r H kvs ks →
    RKv G xa r H (kvs.map fun kv => if kv.1 = k then (kv.1, u) else kv) (ks.map fun kv => if kv.1 = mkK k then (kv.1, v) else kv)
  | [], _, h => by cases h; exact .nil
  | p :: kvs, _, h => by
    cases h with
    | @cons _ q _ ks hq hr =>
      have ih := RKv.mapd (k := k) hv hr
      rw [List.map_cons, List.map_cons]
      by_cases e : p.1 = k
      · have e2 : q.1 = mkK k := by rw [hq.1, e]
        rw [if_pos e, if_pos e2]
        exact Paired.cons (F := fun (p : DK × U) (q : Key × V) => q.1 = mkK p.1 ∧ RU G xa r H p.2 q.2) (a := (p.1, u)) (b := (q.1, v)) ⟨hq.1, hv⟩ ih
      · have e2 : ¬ q.1 = mkK k := fun z => e (mkK_inj (by rw [← hq.1, z]))
        rw [if_neg e, if_neg e2]
        exact Paired.cons (F := fun (p : DK × U) (q : Key × V) => q.1 = mkK p.1 ∧ RU G xa r H p.2 q.2) hq ih
theorem RKv.app {r : List Addr} {H : Hp} : ∀ {kvs more : List (DK × U)} {ks mk : List (Key × V)}, RKv G xa r H kvs ks → RKv G xa r H more mk → RKv G xa r H (kvs ++ more) (ks ++ mk)
  | [], _, _, _, h, k => by cases h; exact k
  | p :: kvs, _, _, _, h, k => by
    cases h with
    | cons hq hr => exact Paired.cons (F := fun (p : DK × U) (q : Key × V) => q.1 = mkK p.1 ∧ RU G xa r H p.2 q.2) hq (RKv.app hr k)
theorem RKv.put {r : List Addr} {H : Hp} {k : DK} {u : U} {v : V} (hv : RU G xa r H u v) {kvs : List (DK × U)} {ks : List (Key × V)} (h : RKv G xa r H kvs ks) : RKv G xa r H (Ev.putD kvs k u) (putK ks (mkK k) v) := by
  unfold Ev.putD putK
  rw [RKv.any h]
  split
  · exact RKv.mapd hv h
  · exact RKv.app h (Paired.cons (F := fun (p : DK × U) (q : Key × V) => q.1 = mkK p.1 ∧ RU G xa r H p.2 q.2) (a := (k, u)) (b := (mkK k, v)) ⟨rfl, hv⟩ .nil)
/-- o[i] = e -/
theorem s_sub {o i x : Ev.E} {lo li l : Expr} {p2 : Pos} (O : Okx G xa W n hot N sc X) (hs : noSlice li = true) (ho : PE X lo (tE G xa W n o)) (hi : PE X li (tE G xa W n i)) (ha : PE X l (tE G xa W n x)) :
    PS X (.Assign [.Subscript lo li p2] l pos) (tS G xa W n (.asub o i x)) := by
  have P1 := ps_asg (pos := pos) ha (pg_sub (pos := p2) ho hi set_list (fun v => by cases li <;> first | rfl | cases hs)) (show swapsWith l (some (.Subscript lo li p2)) pos.line X.env = pure false from swap_other (fun y p h => Expr.noConfusion h)) (by cases l <;> rfl)
  have P2 := ps_dput (pos := pos) (pos' := p2) (show X.A.units + 1 < cLine by have := O.un; omega) ho hi ha (swap_other (fun y p h => Expr.noConfusion h))
  refine PS.imp (PS.or P1 P2) fun D s H ⟨r, e, h, R, E, p⟩ => ?_
  unfold Ev.evS at p
  by_cases hL : ∃ v h1 u h2 k h3 m xs, evE G n x e h = .ok v h1 ∧ evE G n o e h1 = .ok u h2 ∧ evE G n i e h2 = .ok k h3 ∧ u = .ref m ∧ Ev.lstW h3 m = some xs
  · obtain ⟨v0, g1, u0, g2, k0, g3, m, xs, z1, z2, z3, rfl, e1⟩ := hL
    refine .inl (tE_ofR R E p fun r1 H1 u v h1 z X1 R1 E1 k1 p1 => tE_ofR R1 E1 p1 fun r2 H2 u2 v2 h2 z' X2 R2 E2 k2 p2 => tE_ofR R2 E2 p2 fun r3 H3 u3 v3 h3 z'' X3 R3 E3 k3 p3 => ?_)
    rw [z1] at z; cases z
    rw [z2] at z'; cases z'
    rw [z3] at z''; cases z''
    dsimp only at p3
    rw [e1] at p3
    dsimp only at p3
    obtain ⟨a, vs, rfl, ra, t1, k4⟩ := R3.lst e1 (k2.mono X3)
    split at p3
    case _ j =>
      split at p3
      case _ mm em =>
        cases k3
        have X4 : Ex r3 H3 r3 (upd H3 a (.lst (vs.set mm v))) := ex_write t1 trivial
        refine ⟨a, vs, j, mm, rfl, rfl, t1, ?_, ?_⟩
        · rw [← k4.len]; exact em
        · have R4 := R3.write (o := .lst (xs.set mm v0)) (u := .lst (vs.set mm v)) ra t1 trivial ⟨_, rfl, RUs.mono X4 (k4.set (k1.mono (X2.trans X3)))⟩
          exact p3 r3 _ s X4 R4 (E3.mono X4)
      case _ => exact p3.elim
    case _ => exact p3.elim
  · refine .inr (tE_ofR R E p fun r1 H1 u v h1 z X1 R1 E1 k1 p1 => tE_ofR R1 E1 p1 fun r2 H2 u2 v2 h2 z' X2 R2 E2 k2 p2 => tE_ofR R2 E2 p2 fun r3 H3 u3 v3 h3 z'' X3 R3 E3 k3 p3 => ?_)
    split at p3
    case _ m =>
      split at p3
      case _ xs e1 => exact absurd ⟨_, _, _, _, _, _, m, xs, z, z', z'', rfl, e1⟩ hL
      case _ =>
        split at p3
        case _ kvs kk e2 e3 =>
          split at p3
          case isTrue hl =>
            obtain ⟨a, ks, rfl, ra, t1, k4⟩ := R3.dicWr e2 (k2.mono X3)
            have X4 : Ex r3 H3 r3 (upd H3 a (.dK (putK ks (mkK kk) v))) := ex_write t1 trivial
            refine ⟨a, upd H3 a (.dK (putK ks (mkK kk) v)), rfl, ?_, ?_⟩
            · rw [keyOf_rel e3 k3]
              exact DPut.k t1 (by rw [← k4.length]; exact lim_lt hl)
            · have R4 := R3.write (o := .dic (Ev.putD kvs kk u)) (u := .dK (putK ks (mkK kk) v)) ra t1 trivial ⟨_, rfl, RKv.mono X4 (RKv.put (k1.mono (X2.trans X3)) k4)⟩
              exact p3 r3 _ s X4 R4 (E3.mono X4)
          case isFalse => exact p3.elim
        case _ => exact p3.elim
    case _ => exact p3.elim

/-! loops -/
structure ItG (G : Sig) (xa : Xa) (r0 : List Addr) (H0 : Hp) (items : List U) (g : AH → Bool) (J : It) : Prop where
  go : ∀ i r h H, i < items.length → Ex r0 H0 r H → RS G xa r h H → g h = true → J.go i H
  stop : ∀ r h H, Ex r0 H0 r H → RS G xa r h H → g h = true → J.stop items.length H
  yld : ∀ i u r h H x H', items[i]? = some u → Ex r0 H0 r H → RS G xa r h H → g h = true → J.yld i H x H' → Ex r H r H' ∧ RS G xa r h H' ∧ RU G xa r H' u x
theorem ItOk.g {r0 : List Addr} {H0 : Hp} {t : Ev.Its} {J : It} (i : ItOk G xa r0 H0 t J) : ItG G xa r0 H0 t.items (fun h => Ev.gdB h t.gd) J := ⟨i.go, i.stop, i.yld⟩
def forB (G : Sig) (n : Nat) (p : Ev.P) (b : Ev.S) (u : U) (e : Ev.Env) (h : AH) : Ev.F := match Ev.evP p u e with
  | some e1 => Ev.evS G.Γ (Ev.callF G.Γ G.T n) b e1 h
  | none => .bad
theorem for_walk {p : Ev.P} {b : Ev.S} {e : Ev.Env} {σ : L2.St} {items : List U} {g : AH → Bool} {J : It} {r1 : List Addr} {H1 : Hp} {h1 : AH} {D : Ends}
    (R1 : RS G xa r1 h1 H1) (E1 : REn G xa r1 H1 e σ) (J1 : ItG G xa r1 H1 items g J) (pf : PF G xa W (Ev.forL g (forB G n p b) items e h1) r1 H1 D) :
    ∃ W' : Nat → Nat → L2.St → Hp → Prop, (∃ m, W' 0 m σ H1) ∧ ∀ i m σ H, W' i m σ H →
      (J.stop i H ∧ D.nx σ H) ∨ (J.go i H ∧ ∃ Nn : L2.St → Hp → Prop, (∀ σ' H', Nn σ' H' → ∃ m', m' < m ∧ W' (i + 1) m' σ' H') ∧ ∀ x H', J.yld i H x H' → tP G xa p x σ H' fun σ2 H2 => tS G xa W n b { D with nx := Nn, ct := Nn, bk := D.nx } σ2 H2) := by
  refine ⟨fun i m σ H => m = items.length - i ∧ i ≤ items.length ∧ ∃ r e h, Ex r1 H1 r H ∧ RS G xa r h H ∧ REn G xa r H e σ ∧ PF G xa W (Ev.forL g (forB G n p b) (items.drop i) e h) r H D,
    ⟨_, rfl, Nat.zero_le _, r1, e, h1, Ex.refl _ _, R1, E1, by simpa using pf⟩, ?_⟩
  rintro i m σ H ⟨rfl, hi, r, e, h, X3, R3, E3, e3⟩
  by_cases hlt : i < items.length
  · rw [List.drop_eq_getElem_cons hlt] at e3
    unfold Ev.forL at e3
    split at e3
    case isTrue hg =>
      refine .inr ⟨J1.go i r h H hlt X3 R3 hg, fun σ' H' => ∃ r' e' h', Ex r1 H1 r' H' ∧ RS G xa r' h' H' ∧ REn G xa r' H' e' σ' ∧ PF G xa W (Ev.forL g (forB G n p b) (items.drop (i + 1)) e' h') r' H' D,
        fun σ' H' ⟨r', e', h', a1, a2, a3, a4⟩ => ⟨_, by omega, rfl, hlt, r', e', h', a1, a2, a3, a4⟩, fun x H' y => ?_⟩
      obtain ⟨X4, R4, k4⟩ := J1.yld i _ r h H x H' (List.getElem?_eq_getElem hlt) X3 R3 hg y
      cases z : Ev.evP p items[i] e with
      | none => rw [show forB G n p b items[i] e h = .bad by unfold forB; rw [z]] at e3; exact e3.elim
      | some e' =>
        rw [show forB G n p b items[i] e h = Ev.evS G.Γ (Ev.callF G.Γ G.T n) b e' h by unfold forB; rw [z]] at e3
        refine ⟨r, e, e', h, _, R4, E3.mono X4, k4, z, fun σ2 E5 _ => ⟨r, e', h, R4, E5, ?_⟩⟩
        cases z2 : Ev.evS G.Γ (Ev.callF G.Γ G.T n) b e' h with
        | nx e2 h2 =>
          rw [z2] at e3
          exact fun r6 H6 σ6 X6 R6 E6 => ⟨r6, e2, h2, X3.trans (X4.trans X6), R6, E6, PF.mono (X4.trans X6) e3⟩
        | ct e2 h2 =>
          rw [z2] at e3
          exact fun r6 H6 σ6 X6 R6 E6 => ⟨r6, e2, h2, X3.trans (X4.trans X6), R6, E6, PF.mono (X4.trans X6) e3⟩
        | bk e2 h2 =>
          rw [z2] at e3
          exact fun r6 H6 σ6 X6 R6 E6 => e3 r6 H6 σ6 (X4.trans X6) R6 E6
        | rt u h2 =>
          rw [z2] at e3
          exact fun r6 H6 v X6 R6 k6 => e3 r6 H6 v (X4.trans X6) R6 k6
        | exc c xs e2 h2 =>
          rw [z2] at e3
          exact fun r6 H6 σ6 cls d X6 R6 E6 k6 => e3 r6 H6 σ6 cls d (X4.trans X6) R6 E6 k6
        | bad => rw [z2] at e3; exact e3.elim
    case isFalse => exact e3.elim
  · have hi' : i = items.length := by omega
    subst hi'
    rw [List.drop_length] at e3
    unfold Ev.forL at e3
    split at e3
    case isTrue hg => exact .inl ⟨J1.stop r h H X3 R3 hg, e3.nxI R3 E3⟩
    case isFalse => exact e3.elim
/-- for, over what is not locked -/
theorem s_for {p : Ev.P} {it : Ev.E} {b : Ev.S} {tg iter : Expr} {body : List Stmt} (hp : PassesOwn (model X.prog X.w) X.A X.env X.xe) (hc : X.calm = true) (hset : noSet iter = true) (nl : ∀ e h t h1, Ev.evIt G.Γ (Ev.callF G.Γ G.T n) it e h = .ok t h1 → t.lk = none)
    (hi : PI X tg iter (tI G xa W n it)) (hg : PG X tg (tP G xa p)) (hb : PSs X body (tS G xa W n b)) : PS X (.For tg iter body [] pos) (tS G xa W n (.for p it b)) := by
  refine PS.imp (ps_for hp hc hi hg hb (fold_no hset)) fun D s H ⟨r, e, h, R, E, q⟩ => ?_
  unfold Ev.evS at q
  refine ⟨r, e, h, R, E, ?_⟩
  cases z : Ev.evIt G.Γ (Ev.callF G.Γ G.T n) it e h with
  | exc c xs h1 =>
    rw [z] at q
    exact fun r1 H1 cls d X1 R1 k1 => q r1 H1 s cls d X1 R1 (E.mono X1) k1
  | bad => rw [z] at q; exact q.elim
  | ok t h1 =>
    rw [z] at q
    have z2 := nl _ _ _ _ z
    refine ⟨z2, fun r1 H1 J X1 R1 J1 => ?_⟩
    have q' : PF G xa W (match t.lk with
      | none => Ev.forL (fun h => Ev.gdB h t.gd) (forB G n p b) t.items e h1
      | some n' => match Ev.dicW h1 n' with
        | some kvs => Ev.F.unlock n' (.dic kvs) (Ev.forL (fun _ => true) (forB G n p b) t.items e (h1.set n' (.frz (.dic kvs))))
        | none => .bad) r H D := q
    rw [z2] at q'
    exact for_walk R1 (E.mono X1) J1.g (PF.mono X1 q')
/-- while -/
theorem s_whl {t : Ev.E} {b : Ev.S} {c : Expr} {body : List Stmt} (hp : PassesOwn (model X.prog X.w) X.A X.env X.xe) (hc : PT X c (tT G xa W n t)) (hb : PSs X body (tS G xa W n b)) : PS X (.While c body [] pos) (tS G xa W n (.whl t b)) := by
  refine PS.imp (ps_while hp hc hb) fun D s H ⟨r, e, h, R, E, q⟩ => ?_
  unfold Ev.evS at q
  refine ⟨fun m σ H => ∃ r e h, RS G xa r h H ∧ REn G xa r H e σ ∧ PF G xa W (Ev.whL (fun e h => Ev.truR (evE G n t e h)) (fun e h => Ev.evS G.Γ (Ev.callF G.Γ G.T n) b e h) m e h) r H D, ⟨_, r, e, h, R, E, q⟩, ?_⟩
  rintro m σ H ⟨r, e, h, R, E, q⟩
  cases m with
  | zero => exact q.elim
  | succ m =>
    unfold Ev.whL at q
    refine ⟨r, e, h, R, E, ?_⟩
    cases z : Ev.truR (evE G n t e h) with
    | exc c xs h1 =>
      rw [z] at q
      exact fun r1 H1 cls d X1 R1 k1 => q r1 H1 σ cls d X1 R1 (E.mono X1) k1
    | bad => rw [z] at q; exact q.elim
    | ok k h1 =>
      rw [z] at q
      intro r1 H1 k' X1 R1 ek
      obtain rfl : k = k' := ek
      cases k with
      | false => exact iteF (q r1 H1 σ X1 R1 (E.mono X1))
      | true =>
        refine iteT ⟨fun σ' H' => ∃ r' e' h', RS G xa r' h' H' ∧ REn G xa r' H' e' σ' ∧ PF G xa W (Ev.whL (fun e h => Ev.truR (evE G n t e h)) (fun e h => Ev.evS G.Γ (Ev.callF G.Γ G.T n) b e h) m e' h') r' H' D,
          fun σ' H' w => ⟨m, Nat.lt_succ_self _, w⟩, r1, e, h1, R1, E.mono X1, ?_⟩
        dsimp only at q
        cases z2 : Ev.evS G.Γ (Ev.callF G.Γ G.T n) b e h1 with
        | nx e2 h2 =>
          rw [z2] at q
          exact fun r6 H6 σ6 X6 R6 E6 => ⟨r6, e2, h2, R6, E6, PF.mono (X1.trans X6) q⟩
        | ct e2 h2 =>
          rw [z2] at q
          exact fun r6 H6 σ6 X6 R6 E6 => ⟨r6, e2, h2, R6, E6, PF.mono (X1.trans X6) q⟩
        | bk e2 h2 =>
          rw [z2] at q
          exact fun r6 H6 σ6 X6 R6 E6 => q r6 H6 σ6 (X1.trans X6) R6 E6
        | rt u h2 =>
          rw [z2] at q
          exact fun r6 H6 v X6 R6 k6 => q r6 H6 v (X1.trans X6) R6 k6
        | exc c xs e2 h2 =>
          rw [z2] at q
          exact fun r6 H6 σ6 cls d X6 R6 E6 k6 => q r6 H6 σ6 cls d (X1.trans X6) R6 E6 k6
        | bad => rw [z2] at q; exact q.elim
end
end EvS
/-! EvU: own exceptions: made, raised. -/
namespace EvS
open PySem PySem.Spec PyProof.Rows L2
open Ev (U AO AH DK)

/-- what the written part says of the class whose init is called by its name -/
structure OwnI (K : PySem.W.Frag) (C : Addr) : Prop where
  rd : PySem.W.readsIn K C (.type "type") = true
  fc : PySem.W.findCls K (.ref C) (.type "type") "__init__" = some (.val (.builtin "ValueError.__init__"))
  sp : PySem.W.specialIn K (.ref C) "__getattribute__" = some (some (.builtin "type.__getattribute__"))
section
variable {X : Cx} {e : Expr} {es : List Expr} {ta : TA} {p1 p2 pos : Pos}
/-- B.__init__(self, ..), B an own class without an init of its own -/
theorem pe_ownI {B : Str} {C : Addr} (hg : Gl X B) (hm : X.mg B = some (.ref C)) (hd : (B == ("__debug__" : Str)) = false) (T : OwnI X.K C) (ha : PA X (e :: es) ta)
    (hs : (e :: es).all noStar = true) (hl : (e :: es).length < 30) (hline : (p2.endLine == pos.line) = true) :
    PE X (.Call (.Attribute (.Name B p1) "__init__" p2) (e :: es) [] pos) (tVeI X.K ta) := by
  constructor
  intro pins s σ H Q I h
  refine PySem.W.methodCall_KW (ld_glob I hg hm (PySem.W.method_cls I.kIn T.sp (PySem.W.cls_value I.kIn T.rd T.fc (by decide +kernel) ?_)) hd) (meth_eval hs hl rfl hline)
  show wpAny _ _ (callWith pos (Value.builtin "ValueError.__init__") [] (backTo pos (starEach (e :: es) X.env)) []) _ _ _
  refine PyProof.Rows.callWith_method1 (thn (ha.run pos pins _ σ H _ (I.tok _) h) fun us s1 hu => ?_) (star_cons (by simp at hs; exact hs.1)) (star_none (by simp at hs; simpa using hs.2))
  obtain ⟨vs, H1, I1, r1, a, C, ws, rfl, hl, T, ea, q⟩ := hu
  match us, r1 with
  | u0 :: ur, .cons ra rw' =>
    obtain rfl : u0 = Value.ref a := ra
    exact oinit_ok T I1 ea (by rw [← Paired.length rw', sizeLine_eq]; omega) fun s' J => ⟨.non, H1, J, rfl, q⟩
end
/-- what an init of class c promises -/
def spX (G : Sig) (c : Nat) : Sp := fun vs H Q _ => ∃ (a : Addr) (ws : List V), vs = .ref a :: ws ∧ ws.length = (G.Γ.xf c).length ∧ H a = some (exo a (G.ca c) none) ∧
  ∀ (H' : Hp) (dx : Addr) (fs : List (Str × V)), H' a = some (exo a (G.ca c) (some dx)) → H' dx = some (exd dx fs) → H dx = none → dx ≠ a → (∀ b, b ≠ a → b ≠ dx → H' b = H b) →
    (∀ (i f : Nat) (w : V), (G.Γ.xf c)[i]? = some f → ws[i]? = some w → ∃ y, G.an[f]? = some y ∧ fs.lookup y = some w) → Q .non H'
/-- the class of an own exception -/
structure XOk (G : Sig) (K : PySem.W.Frag) (c : Nat) : Prop where
  oex : OexC K (G.ca c)
  no : ∀ f ∈ G.Γ.xf c, ∀ y, G.an[f]? = some y → PySem.W.findIn K (.ref (G.ca c)) y = some none
  xfc : XfC K (G.ca c)
/-- the init of a class with one field, with two -/
structure Ini (st : Stmt) (B : Str) (ys ps : List Str) : Prop where
  sh : ∃ (self p1 p2 : Str) (t : Str) (k : Nat) (q1 q2 q3 q4 q5 q6 a1 a2 a3 a4 b1 b2 b3 b4 : Pos) (y1 y2 : Str),
    (ys = [y1] ∧ ps = [self, p1] ∧ defBody st = [.Expr (.Call (.Attribute (.Name B q1) "__init__" q2) [.Name self q3, .Constant (.str t) k q4] [] q5) q6, .Assign [.Attribute (.Name self a1) y1 a2] (.Name p1 a3) a4] ∧ FnScope [self, p1] [self, p1] (defScope st) ∧
      (defScope st).names.lookup self = some .local ∧ (defScope st).names.lookup p1 = some .local ∧ nmB self = true ∧ nmB p1 = true ∧ (defScope st).names.lookup B = some .globalImplicit ∧ (q2.endLine == q5.line) = true) ∨
    (ys = [y1, y2] ∧ ps = [self, p1, p2] ∧ y1 ≠ y2 ∧ defBody st = [.Expr (.Call (.Attribute (.Name B q1) "__init__" q2) [.Name self q3, .Constant (.str t) k q4] [] q5) q6, .Assign [.Attribute (.Name self a1) y1 a2] (.Name p1 a3) a4, .Assign [.Attribute (.Name self b1) y2 b2] (.Name p2 b3) b4] ∧
      FnScope [self, p1, p2] [self, p1, p2] (defScope st) ∧
      (defScope st).names.lookup self = some .local ∧ (defScope st).names.lookup p1 = some .local ∧ (defScope st).names.lookup p2 = some .local ∧ nmB self = true ∧ nmB p1 = true ∧ nmB p2 = true ∧ (defScope st).names.lookup B = some .globalImplicit ∧ (q2.endLine == q5.line) = true)
section
variable {P : Program} {w : World} {K : PySem.W.Frag} {mg : Str → Option Value} {base : Heap} {G : Sig}
theorem len2 {α : Type} {l : List α} (h : l.length = 2) : ∃ a b, l = [a, b] := by
  match l, h with
  | [a, b], _ => exact ⟨a, b, rfl⟩
theorem lk_same {y : Str} {v : V} {fs : List (Str × V)} : ((y, v) :: fs).lookup y = some v := by simp [List.lookup]
theorem ini_ok {x qual B : Str} {st : Stmt} {f CB : Addr} {fd : FuncData} {c : Nat} {ys ps : List Str} {k : Nat} (F : Fun K x qual st f fd) (I : Ini st B ys ps) (hm : mg B = some (.ref CB)) (hd : nmB B = true) (T : OwnI K CB) (O : XOk G K c)
    (hys : (G.Γ.xf c).map (G.an[·]?) = ys.map some) : FnOk P w K mg base (L2.CX P w) (k + 1) f fd ps (spX G c) := by
  have hB := (nmB_ok hd).1
  obtain ⟨self, p1, p2, t, k0, q1, q2, q3, q4, q5, q6, a1, a2, a3, a4, b1, b2, b3, b4, y1, y2, h⟩ := I.sh
  have hlen : (G.Γ.xf c).length = ys.length := by simpa using congrArg List.length hys
  rcases h with ⟨rfl, rfl, hb, S, l0, l1, n0, n1, lB, hln⟩ | ⟨rfl, rfl, hne, hb, S, l0, l1, l2, n0, n1, n2, lB, hln⟩
  · refine F.okX S (fun vs H Q E ⟨a, ws, e, hl, _⟩ => by rw [e]; simp [hl, hlen]) fun cdv A outer s H vs Q E hr ⟨a, ws, e, hl, ea, q⟩ => ?_
    subst e
    obtain ⟨f1, hxf⟩ : ∃ f1, G.Γ.xf c = [f1] := List.length_eq_one_iff.mp hlen
    obtain ⟨w1, rfl⟩ : ∃ w1, ws = [w1] := List.length_eq_one_iff.mp (by rw [hl, hlen]; rfl)
    have hf1 : G.an[f1]? = some y1 := by rw [hxf] at hys; simpa using hys
    obtain ⟨d0, e0, _⟩ := nmB_ok n0
    obtain ⟨d1, e1, _⟩ := nmB_ok n1
    have v0 := fun pos => pe_var (X := cxOf (L2.CX P w) P w K mg base [self, p1] qual (defScope st) f cdv A outer s H E) (i := 0) (pos := pos) (x := self) rfl (.inl l0) d0 e0
    have v1 := fun pos => pe_var (X := cxOf (L2.CX P w) P w K mg base [self, p1] qual (defScope st) f cdv A outer s H E) (i := 1) (pos := pos) (x := p1) rfl (.inl l1) d1 e1
    rw [hb]
    refine ⟨_, pss_cons (ps_expr (pe_ownI (show Gl _ B from lB) hm hB T (pa_cons (v0 q3) (pa_cons pe_str pa_nil rfl) rfl) rfl (show 2 < 30 by decide) hln) rfl) (pss_one (ps_ost (v0 a1) (v1 a3) rfl)), ?_⟩
    refine ⟨.ref a, rfl, a, G.ca c, [.str t], rfl, (show 1 ≤ 1000 by decide), O.oex, ea, w1, rfl, .ref a, rfl, a, G.ca c, rfl, O.oex, O.no f1 (by rw [hxf]; exact List.mem_singleton.mpr rfl) y1 hf1, .inl ⟨ea, fun dx hdx hda => ?_⟩⟩
    refine q _ dx [(y1, w1)] upd_same (by rw [upd_ne hda, upd_same]) hdx hda (fun b h1 h2 => by rw [upd_ne h1, upd_ne h2]) fun i f w g1 g2 => ?_
    rw [hxf] at g1
    match i, g1, g2 with
    | 0, g1, g2 =>
      cases g1; cases g2
      exact ⟨y1, hf1, lk_same⟩
    | i + 1, g1, _ => simp at g1
  · refine F.okX S (fun vs H Q E ⟨a, ws, e, hl, _⟩ => by rw [e]; simp [hl, hlen]) fun cdv A outer s H vs Q E hr ⟨a, ws, e, hl, ea, q⟩ => ?_
    subst e
    obtain ⟨f1, f2, hxf⟩ : ∃ f1 f2, G.Γ.xf c = [f1, f2] := len2 hlen
    obtain ⟨w1, w2, rfl⟩ : ∃ w1 w2, ws = [w1, w2] := len2 (by rw [hl, hlen]; rfl)
    have hf1 : G.an[f1]? = some y1 := by rw [hxf] at hys; simp at hys; exact hys.1
    have hf2 : G.an[f2]? = some y2 := by rw [hxf] at hys; simp at hys; exact hys.2
    obtain ⟨d0, e0, _⟩ := nmB_ok n0
    obtain ⟨d1, e1, _⟩ := nmB_ok n1
    obtain ⟨d2, e2, _⟩ := nmB_ok n2
    have v0 := fun pos => pe_var (X := cxOf (L2.CX P w) P w K mg base [self, p1, p2] qual (defScope st) f cdv A outer s H E) (i := 0) (pos := pos) (x := self) rfl (.inl l0) d0 e0
    have v1 := fun pos => pe_var (X := cxOf (L2.CX P w) P w K mg base [self, p1, p2] qual (defScope st) f cdv A outer s H E) (i := 1) (pos := pos) (x := p1) rfl (.inl l1) d1 e1
    have v2 := fun pos => pe_var (X := cxOf (L2.CX P w) P w K mg base [self, p1, p2] qual (defScope st) f cdv A outer s H E) (i := 2) (pos := pos) (x := p2) rfl (.inl l2) d2 e2
    rw [hb]
    refine ⟨_, pss_cons (ps_expr (pe_ownI (show Gl _ B from lB) hm hB T (pa_cons (v0 q3) (pa_cons pe_str pa_nil rfl) rfl) rfl (show 2 < 30 by decide) hln) rfl) (pss_cons (ps_ost (v0 a1) (v1 a3) rfl) (pss_one (ps_ost (v0 b1) (v2 b3) rfl))), ?_⟩
    refine ⟨.ref a, rfl, a, G.ca c, [.str t], rfl, (show 1 ≤ 1000 by decide), O.oex, ea, w1, rfl, .ref a, rfl, a, G.ca c, rfl, O.oex, O.no f1 (by rw [hxf]; exact List.mem_cons_self) y1 hf1, .inl ⟨ea, fun dx hdx hda => ?_⟩⟩
    refine ⟨w2, rfl, .ref a, rfl, a, G.ca c, rfl, O.oex, O.no f2 (by rw [hxf]; exact List.mem_cons_of_mem _ List.mem_cons_self) y2 hf2, .inr ⟨dx, [(y1, w1)], upd_same, by rw [upd_ne hda, upd_same], (show 1 ≤ 900 by decide), ?_⟩⟩
    refine q _ dx [(y2, w2), (y1, w1)] (by rw [upd_ne (Ne.symm hda), upd_same]) upd_same hdx hda (fun b h1 h2 => by rw [upd_ne h2, upd_ne h1, upd_ne h2]) fun i f w g1 g2 => ?_
    rw [hxf] at g1
    match i, g1, g2 with
    | 0, g1, g2 =>
      cases g1; cases g2
      refine ⟨y1, hf1, ?_⟩
      rw [lookup_put, if_neg hne]
      exact lk_same
    | 1, g1, g2 =>
      cases g1; cases g2
      exact ⟨y2, hf2, lk_same⟩
    | i + 2, g1, _ => simp at g1
end
end EvS
/-! EvV: try with clauses of both kinds, with a name and without. -/
namespace EvS
open PySem PySem.Spec PyProof.Rows L2
open Ev (U AO AH DK)

/-- a clause: its class, its name's slot, what its suite does -/
structure Cl where
  c : Value
  sl : Option Nat
  ts : Addr → Value → Option Addr → TS
/-- the ends of a named suite: the name goes -/
def goD (D : Ends) : Option Nat → Ends
  | none => D
  | some i => { nx := fun σ H => D.nx (σ.set i none) H, rt := D.rt, bk := fun σ H => D.bk (σ.set i none) H, ct := fun σ H => D.ct (σ.set i none) H }
def goS (σ : L2.St) (a : Addr) : Option Nat → L2.St
  | none => σ
  | some i => σ.set i (some (.ref a))
def wMix (K : PySem.W.Frag) (Wout : WX) (D : Ends) : List Cl → WX
  | [] => Wout
  | q :: r => fun cls d σ H => ∃ b, PySem.W.exmOne K cls q.c = some b ∧ (b = true → ∀ a, H a = none → q.ts a cls d (goD D q.sl) (goS σ a q.sl) H) ∧ (b = false → wMix K Wout D r cls d σ H)
def NameOk (X : Cx) : Option Nat → Option Str → Prop
  | none, none => True
  | some i, some n => X.N[i]? = some n ∧ X.env.kindOf n = some .local
  | _, _ => False
inductive HMix (X : Cx) : List ExceptHandler → List Cl → Prop
  | nil : HMix X [] []
  | cons {x : Str} {q : Cl} {nm : Option Str} {b0 : Stmt} {body : List Stmt} {np pp : Pos} {hds : List ExceptHandler} {l : List Cl} (hc : Names X x q.c) (hn : NameOk X q.sl nm)
      (hb : ∀ (a : Addr) (oe : Obj) (cls : Value) (d : Option Addr) (pn : List (Addr × Obj)), Zc cls d oe → (∃ vs, oe.data = .fields vs) → PSs (X.suite a ((a, oe) :: pn)) (b0 :: body) (q.ts a cls d)) (r : HMix X hds l) :
      HMix X (.ExceptHandler (some (.Name x np)) nm (b0 :: body) pp :: hds) (q :: l)
/-- an exception that has landed in this frame -/
structure Aloft (X : Cx) (B : Heap) (sI : Shared) (pins : List (Addr × Obj)) (σ : L2.St) (H : Hp) (a : Addr) (cls : Value) (d : Option Addr) (s : Shared) : Prop where
  I : Inv X pins σ H sI
  nb : ∀ b o, sI.heap.get? b = some o → b ∉ frs X.stack → B.get? b = some o
  up : sI.heap.UpToSlots s.heap
  fl : HandSPX.FlyingZ B (X.env :: X.outer) a (Zc cls d) s.heap
  na : H a = none
  os : s.os = sI.os
  ag : AllBare s.gens
section
variable {X : Cx} {B : Heap} {sI s : Shared} {pins : List (Addr × Obj)} {σ : L2.St} {H : Hp} {a : Addr} {cls : Value} {d : Option Addr} {D : Ends} {Wout : WX}
theorem Aloft.inv (F : Aloft X B sI pins σ H a cls d s) : Inv X pins σ H s := F.I.landed F.nb F.fl.1 F.up F.os F.ag
theorem Aloft.next (F : Aloft X B sI pins σ H a cls d s) {h : Heap} (fl : HandSPX.FlyingZ B (X.env :: X.outer) a (Zc cls d) h) (up : s.heap.UpToSlots h) : Aloft X B sI pins σ H a cls d { s with heap := h } :=
  ⟨F.I, F.nb, F.up.trans up, fl, F.na, F.os, F.ag⟩
theorem Aloft.away (F : Aloft X B sI pins σ H a cls d s) : a ∉ frs (X.env :: X.outer) := fun hm => by
  obtain ⟨oe, vs, he, hz, hd⟩ := F.fl.there
  obtain ⟨_, o, e, hnf⟩ := F.fl.2.2.1.mem hm
  rw [he] at e
  cases e
  exact hnf _ hd
theorem Aloft.suite (F : Aloft X B sI pins σ H a cls d s) (hf : X.env.frame = some X.env.locals) : ∃ oe, Inv (X.suite a ((a, oe) :: (X.pn ++ pins))) [] σ H s ∧ Zc cls d oe ∧ (∃ vs, oe.data = .fields vs) ∧ s.heap.get? a = some oe := by
  obtain ⟨oe, vs, he, hz, hd⟩ := F.fl.there
  have n1 : a ≠ X.env.locals := fun z => F.away (List.mem_filterMap.mpr ⟨X.env, List.mem_cons_self, by rw [hf, z]⟩)
  have n2 : a ∉ X.fs := fun hm => by
    obtain ⟨e, m, q⟩ := List.mem_filterMap.mp hm
    exact F.away (List.mem_filterMap.mpr ⟨e, List.mem_cons_of_mem _ m, q⟩)
  exact ⟨oe, F.inv.suite he hd F.na n1 n2, hz, ⟨vs, hd⟩, he⟩
/-- the clauses, one after the other -/
theorem hand_run (hs : X.stack = X.env :: X.outer) (hf : X.env.frame = some X.env.locals) (hN : X.N.Nodup) (ok : X.Ok) (tk : Takes X Wout) {hds : List ExceptHandler} {l : List Cl} (hk : HMix X hds l) :
    ∀ {s : Shared}, Aloft X B sI pins σ H a cls d s → wMix X.K Wout D l cls d σ H → wpAny (model X.prog X.w) X.A (handleBy (.ref a) X.env hds) (SP X pins D) X.xe s := by
  induction hk with
  | nil =>
    intro s F w
    refine wpAny_handleBy_nil ?_
    have fl := F.fl
    obtain ⟨_, _, _, oe, vs, T, oT, ts, he, hz, hd, h1, hr⟩ := id F.fl
    unfold PySem.passOn
    refine wpAny_bind (wpAny_field he hd h1 ?_)
    rw [if_neg (show ¬ ((Value.ref T == Value.none) = true) by simp)]
    have last : wpAny (model X.prog X.w) X.A (setFlight (.ref a) X.env.frame) (fun _ z => wpAny (model X.prog X.w) X.A (throw (.ref a) : Sem Flow) (SP X pins D) X.xe z) X.xe s := by
      rw [hf]
      refine HandSPX.setFlight_upZ fl fun h hh up => wpAny_throw (tk _ _ ?_)
      exact ⟨a, B, sI, pins, σ, H, cls, d, rfl, F.I, F.nb, F.up.trans up, .inr (.inr (by rw [hs]; exact hh)), F.na, F.os, F.ag, w⟩
    first
      | exact wpAny_bind (wpAny_pure (wpAny_bind last))
      | exact wpAny_bind last
  | @cons x q nm b0 body np pp hds l hc hn hb r ih =>
    intro s F w
    obtain ⟨b, hb1, yes, no⟩ := w
    obtain ⟨oe, S, hz, hd, he⟩ := F.suite hf
    refine wpAny_handleBy_cons (codeAny_handlers_test ?_) (by intro z; cases z)
    have LT : PySem.W.Looks (model X.prog X.w) s.heap (typeOf (.ref a)) cls := fun A Q E z k y => wpAny_typeOf_ref (k _ _ he) (by rw [hz.1]; exact y)
    have LM := PySem.W.exm_one (M := model X.prog X.w) F.inv.kIn LT hb1
    have name : ∀ {Q : Value → Shared → Prop} {E : Value → Shared → Prop}, Q q.c s → wpAny (model X.prog X.w) (X.A.mark (some (.ref a))) (eval (.Name x np) X.env) Q E s := fun {Q E} y => by
      obtain ⟨g1, g2, g3 | ⟨g3, g4, g5⟩⟩ := hc
      · exact ld_glob (X := X.suite a ((a, oe) :: (X.pn ++ pins))) S g1 g3 y g2
      · exact ld_blt (X := X.suite a ((a, oe) :: (X.pn ++ pins))) S g1 g3 g4 y g5 g2
    refine name (LM.here ?_)
    cases b with
    | false => exact ih F (no rfl)
    | true =>
      have y := yes rfl a F.na
      match q, nm, hn, hb, y with
      | ⟨c, none, ts⟩, none, _, hb, y =>
        refine codeAny_handlers_suite (HandSPX.lands_againZ F.fl fun h fl up => ?_)
        obtain ⟨oe2, S2, hz2, hd2, _⟩ := (F.next fl up).suite hf
        refine wpAny_mono ((hb a oe2 cls d (X.pn ++ pins) hz2 hd2).run [] _ _ H _ S2 y) (fun f z hsp => ?_) (fun _ _ z => False.elim z)
        cases f with
        | next => obtain ⟨σ6, H6, S6, q6⟩ := hsp; exact ⟨_, _, S6.unsuite ok, q6⟩
        | brk => obtain ⟨σ6, H6, S6, q6⟩ := hsp; exact ⟨_, _, S6.unsuite ok, q6⟩
        | cont => obtain ⟨σ6, H6, S6, q6⟩ := hsp; exact ⟨_, _, S6.unsuite ok, q6⟩
        | ret u => obtain ⟨v6, σ6, H6, S6, r6, q6⟩ := hsp; exact ⟨_, _, _, S6.unsuite ok, r6, q6⟩
      | ⟨c, some i, ts⟩, some n, hn, hb, y =>
        obtain ⟨hi, hln⟩ := hn
        refine codeAny_handlers_suite_as (HandSPX.lands_againZ F.fl fun h fl up => ?_)
        obtain ⟨oe2, S2, hz2, hd2, _⟩ := (F.next fl up).suite hf
        refine store_ok (X := X.suite a ((a, oe2) :: (X.pn ++ pins))) (v := .ref a) S2 hN hi (.inl hln) rfl (fun s5 S5 => ?_) (.inr hln)
        refine wpAny_mono ((hb a oe2 cls d (X.pn ++ pins) hz2 hd2).run [] s5 _ H _ S5 y) (fun f z hsp => ?_) (fun _ _ z => False.elim z)
        cases f with
        | next => obtain ⟨σ6, H6, S6, q6⟩ := hsp; exact gone_ok (S6.unsuite ok) hN hi hln fun s7 J7 => ⟨_, _, J7, q6⟩
        | brk => obtain ⟨σ6, H6, S6, q6⟩ := hsp; exact gone_ok (S6.unsuite ok) hN hi hln fun s7 J7 => ⟨_, _, J7, q6⟩
        | cont => obtain ⟨σ6, H6, S6, q6⟩ := hsp; exact gone_ok (S6.unsuite ok) hN hi hln fun s7 J7 => ⟨_, _, J7, q6⟩
        | ret u => obtain ⟨v6, σ6, H6, S6, r6, q6⟩ := hsp; exact gone_ok (S6.unsuite ok) hN hi hln fun s7 J7 => ⟨_, _, _, J7, r6, q6⟩
      | ⟨c, none, ts⟩, some n, hn, _, _ => exact hn.elim
      | ⟨c, some i, ts⟩, none, hn, _, _ => exact hn.elim
end
section
variable {X : Cx} {body : List Stmt} {h0 : ExceptHandler} {hds : List ExceptHandler} {l : List Cl} {pos : Pos} {tb : WX → TS} {Wout : WX}
theorem ps_mix (hs : X.stack = X.env :: X.outer) (hf : X.env.frame = some X.env.locals) (hN : X.N.Nodup) (tk : Takes X Wout)
    (hb : ∀ (W : WX) (pn : List (Addr × Obj)) (xe : Value → Shared → Prop), Takes (X.tr pn xe) W → PassesOwn (model X.prog X.w) X.A X.env xe → PSs (X.tr pn xe) body (tb W))
    (hh : HMix X (h0 :: hds) l) : PS X (.Try body (h0 :: hds) [] [] pos) (fun D σ H => tb (wMix X.K Wout D l) D σ H) := by
  constructor
  intro pins s σ H D I h
  have ok := I.ok
  have hfr : X.A.frames = some (X.env :: X.outer) := by rw [ok.frames, hs]
  refine wpAny_Try_except (wpAny_mono ((hb (wMix X.K Wout D l) (X.pn ++ pins) _ (fun u s' xx => ?_) PassesOwn.looking).run [] s σ H D (I.toTry _) h) (fun f s1 hsp => ?_) fun e s1 he => he)
  · obtain ⟨a, B, sI, pins', σ', H', cls, d, rfl, J', nb, up, sky, na, os, ag, w⟩ := xx
    refine Sky.land Zc.steady hfr hf (by rw [← hs]; exact sky) fun h3 fl3 up3 => ?_
    exact hand_run hs hf hN ok tk hh ⟨J'.ofTry ok, nb, up.trans up3, fl3, na, os, ag⟩ w
  · cases f with
    | next => obtain ⟨σ', H', J', q⟩ := hsp; exact wpAny_execs_nil ⟨σ', H', J'.ofTry ok, q⟩
    | brk => obtain ⟨σ', H', J', q⟩ := hsp; exact ⟨σ', H', J'.ofTry ok, q⟩
    | cont => obtain ⟨σ', H', J', q⟩ := hsp; exact ⟨σ', H', J'.ofTry ok, q⟩
    | ret u => obtain ⟨v, σ', H', J', r, q⟩ := hsp; exact ⟨v, σ', H', J'.ofTry ok, r, q⟩
end
end EvS
/-! EvW: raise and try in the reading. -/
namespace EvS
open PySem PySem.Spec PyProof.Rows L2
open Ev (U AO AH DK)

/-! values without an exception within -/
section
variable {G : Sig} {xa : Xa} {r : List Addr} {H : Hp}
mutual
theorem RU.pl : ∀ {u : U} {v : V}, RU G none r H u v → u.plain = true
  | .non, _, _ => rfl
  | .bl _, _, _ => rfl
  | .int _, _, _ => rfl
  | .str _, _, _ => rfl
  | .tup xs, _, h => by
    unfold RU at h
    obtain ⟨a, vs, _, _, hs⟩ := h
    unfold Ev.U.plain
    exact RUs.pl hs
  | .ref _, _, _ => rfl
  | .exc c xs, _, h => by
    unfold RU at h
    obtain ⟨_, _, _, _, z, _⟩ := h
    cases z
  | .fn _, _, h => h.elim
theorem RUs.pl : ∀ {us : List U} {vs : List V}, RUs G none r H us vs → Ev.U.plains us = true
  | [], _, _ => rfl
  | x :: xs, _, h => by
    unfold RUs at h
    obtain ⟨y, ys, _, h1, h2⟩ := h
    unfold Ev.U.plains
    rw [RU.pl h1, RUs.pl h2]
    rfl
end
mutual
/-- what holds an exception no exception's value: the two relations are one -/
theorem RU.to {xb : Xa} : ∀ {u : U} {v : V}, u.plain = true → RU G xa r H u v → RU G xb r H u v
  | .non, _, _, h => h
  | .bl _, _, _, h => h
  | .int _, _, _, h => h
  | .str _, _, _, h => h
  | .tup xs, _, p, h => by
    unfold RU at h ⊢
    obtain ⟨a, vs, e, t, hs⟩ := h
    unfold Ev.U.plain at p
    exact ⟨a, vs, e, t, RUs.to p hs⟩
  | .ref _, _, _, h => h
  | .exc c xs, _, p, _ => by unfold Ev.U.plain at p; cases p
  | .fn _, _, _, h => h
theorem RUs.to {xb : Xa} : ∀ {us : List U} {vs : List V}, Ev.U.plains us = true → RUs G xa r H us vs → RUs G xb r H us vs
  | [], _, _, h => h
  | x :: xs, _, p, h => by
    unfold Ev.U.plains at p
    simp only [Bool.and_eq_true] at p
    unfold RUs at h ⊢
    obtain ⟨y, ys, e, h1, h2⟩ := h
    exact ⟨y, ys, e, RU.to p.1 h1, RUs.to p.2 h2⟩
end
def plO : AO → Bool
  | .lst xs => Ev.U.plains xs
  | .dic kvs => kvs.all fun p => p.2.plain
  | .ins _ fs => fs.all fun p => p.2.plain
  | .frz o => plO o
theorem RKv.pl : ∀ {us : List (DK × U)} {vs : List (Key × V)}, RKv G none r H us vs → (us.all fun p => p.2.plain) = true
  | [], _, _ => rfl
  | p :: us, _, h => by
    cases h with
    | cons h1 h2 => rw [List.all_cons, RKv.pl h2, h1.2.pl]; rfl
theorem RFs.pl : ∀ {us : List (Nat × U)} {vs : List (Str × V)}, RFs G none r H us vs → (us.all fun p => p.2.plain) = true
  | [], _, _ => rfl
  | p :: us, _, h => by
    cases h with
    | cons h1 h2 => rw [List.all_cons, RFs.pl h2, h1.2.pl]; rfl
theorem RO.pl : ∀ {o : AO} {u : HO}, RO G none r H o u → plO o = true
  | .lst xs, _, ⟨vs, _, k⟩ => k.pl
  | .dic kvs, _, ⟨ks, _, k⟩ => k.pl
  | .ins c fs, _, ⟨dx, gs, _, k⟩ => k.pl
  | .frz o, _, ⟨ob, u, _, k⟩ => (RO.pl (o := o) k : plO o = true)
theorem all_mem {α : Type} {p : α → Bool} {l : List α} (h : l.all p = true) : ∀ x ∈ l, p x = true := List.all_eq_true.mp h
theorem RKv.to {xb : Xa} : ∀ {us : List (DK × U)} {vs : List (Key × V)}, (us.all fun p => p.2.plain) = true → RKv G xa r H us vs → RKv G xb r H us vs
  | [], _, _, h => by cases h; exact .nil
  | p :: us, _, a, h => by
    rw [List.all_cons, Bool.and_eq_true] at a
    cases h with
    | cons h1 h2 => exact Paired.cons (F := fun (p : DK × U) (q : Key × V) => q.1 = mkK p.1 ∧ RU G xb r H p.2 q.2) ⟨h1.1, h1.2.to a.1⟩ (RKv.to a.2 h2)
theorem RFs.to {xb : Xa} : ∀ {us : List (Nat × U)} {vs : List (Str × V)}, (us.all fun p => p.2.plain) = true → RFs G xa r H us vs → RFs G xb r H us vs
  | [], _, _, h => by cases h; exact .nil
  | p :: us, _, a, h => by
    rw [List.all_cons, Bool.and_eq_true] at a
    cases h with
    | cons h1 h2 => exact Paired.cons (F := fun (p : Nat × U) (q : Str × V) => G.an[p.1]? = some q.1 ∧ RU G xb r H p.2 q.2) ⟨h1.1, h1.2.to a.1⟩ (RFs.to a.2 h2)
theorem RO.to {xb : Xa} : ∀ {o : AO} {u : HO}, plO o = true → RO G xa r H o u → RO G xb r H o u
  | .lst xs, _, p, ⟨vs, e, k⟩ => ⟨vs, e, k.to p⟩
  | .dic kvs, _, p, ⟨ks, e, k⟩ => ⟨ks, e, k.to p⟩
  | .ins c fs, _, p, ⟨dx, gs, e, k⟩ => ⟨dx, gs, e, k.to p⟩
  | .frz o, _, p, ⟨ob, u, e, k⟩ => ⟨ob, u, e, RO.to (o := o) p k⟩
def plH (h : AH) : Prop := ∀ (n : Nat) (o : AO), h[n]? = some o → plO o = true
theorem RS.pl {h : AH} (R : RS G none r h H) : plH h := fun n o e => by
  have hn : n < r.length := by rw [R.len]; exact (List.getElem?_eq_some_iff.mp e).1
  obtain ⟨u, _, k⟩ := R.ob n o r[n] e (List.getElem?_eq_getElem hn)
  exact k.pl
theorem RS.to {xb : Xa} {h : AH} (p : plH h) (R : RS G xa r h H) : RS G xb r h H := ⟨R.len, R.nd, fun n o a e1 e2 => by
  obtain ⟨u, e, k⟩ := R.ob n o a e1 e2
  exact ⟨u, e, k.to (p n o e1)⟩⟩
def plE (e : Ev.Env) : Prop := ∀ (i : Nat) (u : U), e[i]? = some (some u) → u.plain = true
theorem REn.pl {e : Ev.Env} {s : L2.St} (E : REn G none r H e s) : plE e := fun i u h => by
  obtain ⟨v, _, k⟩ := E.2 i u h
  exact k.pl
theorem REn.to {xb : Xa} {e : Ev.Env} {s : L2.St} (p : plE e) (E : REn G xa r H e s) : REn G xb r H e s := ⟨E.1, fun i u h => by
  obtain ⟨v, e1, k⟩ := E.2 i u h
  exact ⟨v, e1, k.to (p i u h)⟩⟩
theorem XR.pl {c : Nat} {xs : List U} {cls : Value} {d : Option Addr} (x : XR G none r H c xs cls d) : Ev.U.plains xs = true := by
  obtain ⟨_, dd, fs, ws, _, _, k, _⟩ := x
  exact k.pl
end
/-! pure expressions -/
section
variable {G : Sig} {n : Nat}
theorem fnd_mem {f : Nat} : ∀ {l : List Nat} {xs : List U} {u : U}, Ev.fnd f l xs = some u → u ∈ xs
  | [], _, _, h => by cases h
  | _ :: _, [], _, h => by cases h
  | a :: l, x :: xs, u, h => by
    unfold Ev.fnd at h
    split at h
    · cases h; exact List.mem_cons_self
    · exact List.mem_cons_of_mem _ (fnd_mem h)
theorem plains_mem : ∀ {xs : List U} {u : U}, Ev.U.plains xs = true → u ∈ xs → u.plain = true
  | [], _, _, m => by cases m
  | x :: xs, u, h, m => by
    unfold Ev.U.plains at h
    simp only [Bool.and_eq_true] at h
    rcases List.mem_cons.mp m with e | m
    · rw [e]; exact h.1
    · exact plains_mem h.2 m
mutual
theorem pure_ev {i : Option Nat} {e : Ev.Env} {h : AH} (pe : ∀ j u, i ≠ some j → e[j]? = some (some u) → u.plain = true) (pi : ∀ j w, i = some j → e[j]? = some (some w) → ∃ c xs, w = .exc c xs ∧ Ev.U.plains xs = true) :
    ∀ (x : Ev.E) {u : U} {h1 : AH}, Ev.pureX i x = true → evE G n x e h = .ok u h1 → h1 = h ∧ u.plain = true
  | .con v, u, h1, p, q => by
    unfold evE Ev.evE at q
    cases q
    exact ⟨rfl, by unfold Ev.pureX at p; exact p⟩
  | .var j, u, h1, p, q => by
    unfold evE Ev.evE at q
    split at q
    case _ w z =>
      cases q
      exact ⟨rfl, pe j _ (by unfold Ev.pureX at p; simpa using p) z⟩
    case _ => cases q
  | .fld o f, u, h1, p, q => by
    cases o with
    | var j =>
      unfold Ev.pureX at p
      unfold evE Ev.evE Ev.evE at q
      cases z : e[j]? with
      | none => rw [z] at q; cases q
      | some ow =>
      cases ow with
      | none => rw [z] at q; cases q
      | some w0 =>
      obtain ⟨c, xs, rfl, k⟩ := pi j w0 (by simpa using p) z
      rw [z] at q
      simp only [Ev.R.bind, Ev.evFld] at q
      cases z2 : Ev.fnd f (G.Γ.xf c) xs with
      | none => rw [z2] at q; cases q
      | some w =>
        rw [z2] at q
        cases q
        exact ⟨rfl, plains_mem k (fnd_mem z2)⟩
    | _ => unfold Ev.pureX at p; cases p
  | .tup es, u, h1, p, q => by
    unfold evE Ev.evE at q
    obtain ⟨us, h2, z, q⟩ := bind_ok q
    cases q
    obtain ⟨rfl, k⟩ := pure_evs pe pi es (by unfold Ev.pureX at p; exact p) z
    exact ⟨rfl, by unfold Ev.U.plain; exact k⟩
  | .glb _, _, _, p, _ => by cases p
  | .fnv _, _, _, p, _ => by cases p
  | .nil, _, _, p, _ => by cases p
  | .cons _ _, _, _, p, _ => by cases p
  | .bin _ _ _, _, _, p, _ => by cases p
  | .neg _, _, _, p, _ => by cases p
  | .cmp _ _ _, _, _, p, _ => by cases p
  | .chain _ _ _ _ _, _, _, p, _ => by cases p
  | .not _, _, _, p, _ => by cases p
  | .and _, _, _, p, _ => by cases p
  | .or _, _, _, p, _ => by cases p
  | .ife _ _ _, _, _, p, _ => by cases p
  | .lst _, _, _, p, _ => by cases p
  | .dic _ _, _, _, p, _ => by cases p
  | .ix _ _, _, _, p, _ => by cases p
  | .sl _ _ _, _, _, p, _ => by cases p
  | .call _ _, _, _, p, _ => by cases p
  | .mk _ _, _, _, p, _ => by cases p
  | .meth _ _ _, _, _, p, _ => by cases p
  | .bi _ _, _, _, p, _ => by cases p
  | .isi _ _, _, _, p, _ => by cases p
  | .bm _ _ _, _, _, p, _ => by cases p
  | .lc _ _ _ _ _, _, _, p, _ => by cases p
  | .iseq _, _, _, p, _ => by cases p
  | .irange1 _, _, _, p, _ => by cases p
  | .irange2 _ _, _, _, p, _ => by cases p
  | .ienum _, _, _, p, _ => by cases p
  | .izip _ _, _, _, p, _ => by cases p
  | .iitems _, _, _, p, _ => by cases p
  | .ivalues _, _, _, p, _ => by cases p
  | .ikeys _, _, _, p, _ => by cases p
termination_by structural x => x
theorem pure_evs {i : Option Nat} {e : Ev.Env} {h : AH} (pe : ∀ j u, i ≠ some j → e[j]? = some (some u) → u.plain = true) (pi : ∀ j w, i = some j → e[j]? = some (some w) → ∃ c xs, w = .exc c xs ∧ Ev.U.plains xs = true) :
    ∀ (x : Ev.E) {us : List U} {h1 : AH}, Ev.pureXs i x = true → evEs G n x e h = .ok us h1 → h1 = h ∧ Ev.U.plains us = true
  | .nil, us, h1, p, q => by
    unfold evEs Ev.evEs at q
    cases q
    exact ⟨rfl, rfl⟩
  | .cons a b, us, h1, p, q => by
    unfold Ev.pureXs at p
    simp only [Bool.and_eq_true] at p
    unfold evEs Ev.evEs at q
    obtain ⟨u, h2, z, q⟩ := bind_ok q
    obtain ⟨ws, h3, z2, q⟩ := bind_ok q
    cases q
    obtain ⟨rfl, k⟩ := pure_ev pe pi a p.1 z
    obtain ⟨rfl, k2⟩ := pure_evs pe pi b p.2 z2
    exact ⟨rfl, by unfold Ev.U.plains; rw [k, k2]; rfl⟩
  | .var _, _, _, p, _ => by cases p
  | .con _, _, _, p, _ => by cases p
  | .glb _, _, _, p, _ => by cases p
  | .fnv _, _, _, p, _ => by cases p
  | .bin _ _ _, _, _, p, _ => by cases p
  | .neg _, _, _, p, _ => by cases p
  | .cmp _ _ _, _, _, p, _ => by cases p
  | .chain _ _ _ _ _, _, _, p, _ => by cases p
  | .not _, _, _, p, _ => by cases p
  | .and _, _, _, p, _ => by cases p
  | .or _, _, _, p, _ => by cases p
  | .ife _ _ _, _, _, p, _ => by cases p
  | .tup _, _, _, p, _ => by cases p
  | .lst _, _, _, p, _ => by cases p
  | .dic _ _, _, _, p, _ => by cases p
  | .ix _ _, _, _, p, _ => by cases p
  | .sl _ _ _, _, _, p, _ => by cases p
  | .call _ _, _, _, p, _ => by cases p
  | .mk _ _, _, _, p, _ => by cases p
  | .meth _ _ _, _, _, p, _ => by cases p
  | .fld _ _, _, _, p, _ => by cases p
  | .bi _ _, _, _, p, _ => by cases p
  | .isi _ _, _, _, p, _ => by cases p
  | .bm _ _ _, _, _, p, _ => by cases p
  | .lc _ _ _ _ _, _, _, p, _ => by cases p
  | .iseq _, _, _, p, _ => by cases p
  | .irange1 _, _, _, p, _ => by cases p
  | .irange2 _ _, _, _, p, _ => by cases p
  | .ienum _, _, _, p, _ => by cases p
  | .izip _ _, _, _, p, _ => by cases p
  | .iitems _, _, _, p, _ => by cases p
  | .ivalues _, _, _, p, _ => by cases p
  | .ikeys _, _, _, p, _ => by cases p
termination_by structural x => x
end
end
/-! raise -/
structure Xlo (G : Sig) (n : Nat) (X : Cx) : Prop where
  xo : ∀ c, G.Γ.xf c ≠ [] → XOk G X.K c ∧ (G.Γ.xf c).length ≤ 2
  xk : ∀ c, G.Γ.xf c ≠ [] → ∃ (fI : Addr) (fdv : FuncData) (ps : List Str), PySem.W.findIn X.K (.ref (G.ca c)) "__init__" = some (some (.ref fI)) ∧ PySem.W.typeIn X.K (.ref fI) = some (.type "function") ∧
    FnOk X.prog X.w X.K X.mg X.base (L2.CX X.prog X.w) (lv n) fI fdv ps (spX G c) ∧ Binds X.K fdv ps []
  hk : ∀ c k, G.Γ.xf c ≠ [] → G.hx k = true → PySem.W.exmOne X.K (.ref (G.ca c)) (.ref (G.ca k)) = some (G.Γ.sub c k)
section
variable {G : Sig} {W : WX} {n : Nat} {N : List Str} {sc : Scope} {X : Cx} {pos : Pos}
theorem s_rai {c : Nat} {x : Str} {e : Expr} {es : List Expr} {as : Ev.E} {p p2 : Pos} (O : Okx G none W n false N sc X) (L : Xlo G n X) (h1 : glbB sc x = true) (h2 : nmB x = true) (h3 : G.gc x = some c) (h4 : G.Γ.xf c ≠ []) (hs : (e :: es).all noStar = true) (ha : PA X (e :: es) (tEs G none W n as)) :
    PS X (.Raise (some (.Call (.Name x p) (e :: es) [] p2)) none pos) (tS G none W n (.rai c as)) := by
  obtain ⟨cm, hr, tk, _⟩ := O.cold rfl
  obtain ⟨fI, fdv, ps, i1, i2, F, hb⟩ := L.xk c h4
  obtain ⟨xo, hl2⟩ := L.xo c h4
  refine PS.imp (ps_raise cm tk (pmk_oex xo.oex i1 i2 F hr hb .nil passL (gl_of O h1) (O.glo.gc x c h3) ha (nmB_ok h2).1 (star_cons (by simp at hs; exact hs.1)) (star_none (by simp at hs; simpa using hs.2)))) fun D s H ⟨r, e, h, R, E, q⟩ => ?_
  unfold Ev.evS at q
  refine ⟨r, e, h, R, E, ?_⟩
  cases z : evEs G n as e h with
  | exc c xs h1 => rw [show Ev.evEs G.Γ (Ev.callF G.Γ G.T n) as e h = _ from z] at q; exact fun r1 H1 cls d X1 R1 k1 => q r1 H1 s cls d X1 R1 (E.mono X1) k1
  | bad => rw [show Ev.evEs G.Γ (Ev.callF G.Γ G.T n) as e h = _ from z] at q; exact q.elim
  | ok us h1 =>
    rw [show Ev.evEs G.Γ (Ev.callF G.Γ G.T n) as e h = _ from z] at q
    intro r1 H1 vs X1 R1 k1
    have k1' : RUs G none r1 H1 us vs := k1
    simp only [Ev.F.ofR] at q
    split at q
    case isTrue hl =>
      have hlv : vs.length = (G.Γ.xf c).length := by rw [← k1'.len]; exact hl
      refine ⟨by rw [hlv]; omega, fun a ha0 => ⟨a, vs ++ [], rfl, by rw [List.append_nil]; exact hlv, upd_same, fun H' dx fs g1 g2 g3 g4 g5 g6 => ⟨rfl, dx, fs, g1, g2, ?_, ?_⟩⟩⟩
      · rw [upd_ne g4] at g3; exact g3
      · rw [upd_ne g4] at g3
        have eH : upd (del H' a) dx (.xd fs) = upd H1 dx (.xd fs) := by
          funext b
          by_cases hb : b = dx
          · rw [hb, upd_same, upd_same]
          · rw [upd_ne hb, upd_ne hb]
            by_cases hba : b = a
            · rw [hba, del_same, ha0]
            · rw [del_ne hba, g5 b hba hb, upd_ne hba]
        rw [eH]
        have X2 : Ex r1 H1 r1 (upd H1 dx (.xd fs)) := ex_upd g3
        refine q r1 _ s (.ref (G.ca c)) (some dx) (X1.trans X2) (R1.beside g3) (E.mono (X1.trans X2)) ⟨rfl, dx, fs, vs, rfl, upd_same, k1'.mono X2, hl, fun i f w f1 f2 => g6 i f w f1 (by rw [List.append_nil]; exact f2)⟩
    case isFalse => exact q.elim
/-- reading, with the wish as it comes -/
theorem PE.some {X : Cx} {e : Expr} {te : TE} (h : PE X e te) : PE X e (fun σ H Q => ∃ Q', te σ H Q' ∧ ∀ v H, Q' v H → Q v H) :=
  ⟨fun pins s σ H Q I ⟨Q', h1, h2⟩ => thn (h.run pins s σ H Q' I h1) fun u s1 ⟨v, H1, I1, r1, q1⟩ => ⟨v, H1, I1, r1, h2 v H1 q1⟩⟩
theorem Glo.suite (O : Glo G n X) {a : Addr} {pn : List (Addr × Obj)} : Glo G n (X.suite a pn) := ⟨O.hK, O.fn, O.gf, O.gc, O.gk, O.blt, O.ini, O.mt, O.fl, O.an, O.isi, O.kd⟩
theorem Glo.tr (O : Glo G n X) {pn : List (Addr × Obj)} {xe : Value → Shared → Prop} : Glo G n (X.tr pn xe) := ⟨O.hK, O.fn, O.gf, O.gc, O.gk, O.blt, O.ini, O.mt, O.fl, O.an, O.isi, O.kd⟩
theorem Xlo.tr (O : Xlo G n X) {pn : List (Addr × Obj)} {xe : Value → Shared → Prop} : Xlo G n (X.tr pn xe) := ⟨O.xo, O.xk, O.hk⟩
theorem Okx.tr (O : Okx G none W n false N sc X) {W' : WX} {pn : List (Addr × Obj)} {xe : Value → Shared → Prop} (tk : Takes (X.tr pn xe) W') : Okx G none W' n false N sc (X.tr pn xe) :=
  ⟨O.glo.tr, O.hN, O.nd, O.hsc, O.un, fun _ => ⟨(O.cold rfl).1, (O.cold rfl).2.1, tk, rfl⟩, fun e te y pos hs he => xf_none e te y pos hs he⟩
theorem Okx.suite (O : Okx G none W n false N sc X) (L : Xlo G n X) {a : Addr} {oe : Obj} {cls : Value} {d : Option Addr} {pn : List (Addr × Obj)} (hz : Zc cls d oe) (hf : ∃ vs, oe.data = .fields vs) (hu : X.A.units + 64 < cLine) :
    Okx G (some (a, cls, d)) fls n true N sc (X.suite a ((a, oe) :: pn)) := by
  refine ⟨O.glo.suite, O.hN, O.nd, O.hsc, ?_, fun z => (by cases z), fun e te y pos hs he => ?_⟩
  · exact hu
  · by_cases hc : ∃ c f, cls = .ref (G.ca c) ∧ f ∈ G.Γ.xf c ∧ G.an[f]? = some y
    · obtain ⟨c, f, rfl, hf1, hf2⟩ := hc
      obtain ⟨xo, _⟩ := L.xo c (List.ne_nil_of_mem hf1)
      refine PE.imp (pe_xf (X := X) (pn := pn) (pos := pos) xo.xfc (xo.no f hf1 y hf2) hz hf (PE.some he) (base_of hs)) fun s H Q q => ?_
      refine ⟨_, q, fun v H1 ⟨c', f', a', dd, fs, w, e1, e2, e3, e4, e5, e6, q2⟩ => ?_⟩
      simp only [Option.some.injEq, Prod.mk.injEq] at e1
      obtain ⟨rfl, _, rfl⟩ := e1
      exact ⟨e4, rfl, dd, fs, w, rfl, e5, e6, q2⟩
    · refine ⟨fun pins s σ H Q I h => attr_of (base_of hs) (thn (he.run pins s σ H _ I h) fun u s1 ⟨x, H1, I1, r1, q⟩ => ?_)⟩
      obtain ⟨c', f', a', dd, fs, w, e1, e2, e3, _⟩ := q
      cases e1
      exact absurd ⟨c', f', rfl, e2, e3⟩ hc
def clOf (G : Sig) (n : Nat) : Ev.S → List Cl
  | .cons a r => match a with
    | .hd k slot b => ⟨.ref (G.ca k), slot, fun a cls d => tS G (some (a, cls, d)) fls n b⟩ :: clOf G n r
    | _ => []
  | _ => []
end
end EvS
/-! EvX: the check of statements; every statement that passes it. -/
namespace EvS
open PySem PySem.Spec PyProof.Rows L2
open Ev (U AO AH DK)

def asgO : Ev.S → Option (Nat × Ev.E)
  | .asg p x => (match p with
    | .name j => some (j, x)
    | _ => none)
  | _ => none
theorem asgO_inv {a : Ev.S} {j : Nat} {x : Ev.E} (h : asgO a = some (j, x)) : a = .asg (.name j) x := by
  cases a with
  | asg p y =>
    cases p with
    | name i => cases h; rfl
    | _ => cases h
  | _ => cases h
def asnOf : Stmt → Option (Str × Expr)
  | .Assign ts l _ => (match ts with
    | [t] => (match t with
      | .Name y _ => some (y, l)
      | _ => none)
    | _ => none)
  | _ => none
theorem asnOf_inv {st : Stmt} {y : Str} {l : Expr} (h : asnOf st = some (y, l)) : ∃ py ps, st = .Assign [.Name y py] l ps := by
  cases st with
  | Assign ts e p =>
    match ts, h with
    | [t], h =>
      cases t with
      | Name z q => cases h; exact ⟨q, p, rfl⟩
      | _ => cases h
  | _ => cases h
/-- what a suite may store: a pure value, a list of such -/
def suX (slot : Option Nat) : Ev.E → Bool
  | .lst es => Ev.pureXs slot es
  | x => Ev.pureX slot x
/-- a suite of stores -/
def chSu (G : Sig) (N : List Str) (sc : Scope) (slot : Option Nat) : Ev.S → List Stmt → Bool
  | .nil, [] => true
  | .cons a r, st :: ss => (match asgO a, asnOf st with
      | some (j, x), some (y, l) => slot != some j && N[j]? == some y && lcB sc y && noComp l && suX slot x && chE G true N x false sc l
      | _, _ => false) && chSu G N sc slot r ss
  | _, _ => false
termination_by structural x => x
def chHd (G : Sig) (N : List Str) (sc : Scope) : Ev.S → ExceptHandler → Bool
  | .hd k slot b, .ExceptHandler (some (.Name cx _)) nm (st :: ss) _ => glbB sc cx && nmB cx && G.gc cx == some k && G.hx k && (match slot, nm with
      | none, none => true
      | some i, some y => N[i]? == some y && locB sc y
      | _, _ => false) && chSu G N sc slot b (st :: ss)
  | _, _ => false
def chHs (G : Sig) (N : List Str) (sc : Scope) : Ev.S → List ExceptHandler → Bool
  | .nil, [] => true
  | .cons a r, h :: hs => chHd G N sc a h && chHs G N sc r hs
  | _, _ => false
termination_by structural x => x
section
variable {G : Sig} {W : WX} {n : Nat} {N : List Str} {sc : Scope} {X : Cx} {pos : Pos}
theorem chSu_cons {slot : Option Nat} {a r : Ev.S} {st : Stmt} {ss : List Stmt} (h : chSu G N sc slot (.cons a r) (st :: ss) = true) : ∃ (j : Nat) (x : Ev.E) (y : Str) (l : Expr) (py ps : Pos), a = .asg (.name j) x ∧ st = .Assign [.Name y py] l ps ∧ slot ≠ some j ∧ N[j]? = some y ∧ lcB sc y = true ∧ noComp l = true ∧ suX slot x = true ∧ chE G true N x false sc l = true ∧ chSu G N sc slot r ss = true := by
  unfold chSu at h
  simp only [Bool.and_eq_true] at h
  obtain ⟨h, h2⟩ := h
  cases e1 : asgO a with
  | none => rw [e1] at h; cases h
  | some jx =>
  cases e2 : asnOf st with
  | none => rw [e1, e2] at h; cases h
  | some yl =>
    obtain ⟨j, x⟩ := jx
    obtain ⟨y, l⟩ := yl
    obtain rfl := asgO_inv e1
    obtain ⟨py, ps, rfl⟩ := asnOf_inv e2
    rw [e1, e2] at h
    dsimp only at h
    simp only [Bool.and_eq_true, bne_iff_ne, ne_eq, beq_iff_eq] at h
    obtain ⟨⟨⟨⟨⟨k1, k2⟩, k3⟩, k4⟩, k5⟩, k6⟩ := h
    exact ⟨j, x, y, l, py, ps, rfl, rfl, k1, k2, k3, k4, k5, k6, h2⟩
/-- plain but for the exception's name -/
structure PlS (slot : Option Nat) (e : Ev.Env) : Prop where
  pe : ∀ j u, slot ≠ some j → e[j]? = some (some u) → u.plain = true
  pi : ∀ j w, slot = some j → e[j]? = some (some w) → ∃ c xs, w = .exc c xs ∧ Ev.U.plains xs = true
theorem PlS.set {slot : Option Nat} {e : Ev.Env} {j : Nat} {u : U} (p : PlS slot e) (hj : slot ≠ some j) (hu : u.plain = true) : PlS slot (e.set j (some u)) := by
  refine ⟨fun l w hl h => ?_, fun l w hl h => ?_⟩
  · by_cases hjl : j = l
    · subst hjl
      by_cases hlt : j < e.length
      · rw [List.getElem?_set_self hlt] at h; cases h; exact hu
      · rw [List.getElem?_eq_none (by simpa using hlt)] at h; cases h
    · rw [List.getElem?_set_ne hjl] at h
      exact p.pe l w hl h
  · by_cases hjl : j = l
    · subst hjl; exact absurd hl hj
    · rw [List.getElem?_set_ne hjl] at h
      exact p.pi l w hl h
theorem PlS.ofSlot {e : Ev.Env} {i c : Nat} {xs : List U} (p : plE e) (hx : Ev.U.plains xs = true) : PlS (some i) (e.set i (some (.exc c xs))) := by
  refine ⟨fun l w hl h => ?_, fun l w hl h => ?_⟩
  · have : i ≠ l := fun z => hl (by rw [z])
    rw [List.getElem?_set_ne this] at h
    exact p l w h
  · cases hl
    by_cases hlt : i < e.length
    · rw [List.getElem?_set_self hlt] at h; cases h; exact ⟨c, xs, rfl, hx⟩
    · rw [List.getElem?_eq_none (by simpa using hlt)] at h; cases h
theorem PlS.unset {e : Ev.Env} {i : Nat} (p : PlS (some i) e) : plE (e.set i none) := fun l w h => by
  by_cases hi : i = l
  · subst hi
    by_cases hlt : i < e.length
    · rw [List.getElem?_set_self hlt] at h; cases h
    · rw [List.getElem?_eq_none (by simpa using hlt)] at h; cases h
  · rw [List.getElem?_set_ne hi] at h
    exact p.pe l w (fun z => hi (by cases z; rfl)) h
theorem plH_app {h : AH} {o : AO} (p : plH h) (q : plO o = true) : plH (h ++ [o]) := fun n x e => by
  by_cases hn : n < h.length
  · rw [List.getElem?_append_left hn] at e; exact p n x e
  · rw [List.getElem?_append_right (by omega)] at e
    have : n - h.length = 0 := by
      have := (List.getElem?_eq_some_iff.mp e).1
      simp at this; omega
    rw [this] at e
    cases e
    exact q
theorem su_pure {slot : Option Nat} {x : Ev.E} {e : Ev.Env} {h h1 : AH} {u : U} (hx : suX slot x = true) (p : PlS slot e) (ph : plH h) (z : evE G n x e h = .ok u h1) : plH h1 ∧ u.plain = true := by
  by_cases hl : ∃ es, x = .lst es
  · obtain ⟨es, rfl⟩ := hl
    unfold evE Ev.evE at z
    obtain ⟨us, h2, z1, z2⟩ := bind_ok z
    obtain ⟨rfl, k⟩ := pure_evs p.pe p.pi es hx z1
    cases z2
    exact ⟨plH_app ph k, rfl⟩
  · have hx' : Ev.pureX slot x = true := by
      unfold suX at hx
      split at hx
      · exact absurd ⟨_, rfl⟩ hl
      · exact hx
    obtain ⟨rfl, k⟩ := pure_ev p.pe p.pi x hx' z
    exact ⟨ph, k⟩
/-- what a suite comes to -/
def SuEnd (slot : Option Nat) : Ev.F → Prop
  | .nx e h => plH h ∧ PlS slot e
  | .rt _ _ => False
  | .bk _ _ => False
  | .ct _ _ => False
  | _ => True
theorem su_end {slot : Option Nat} : ∀ {b : Ev.S} {ss : List Stmt} {e : Ev.Env} {h : AH}, chSu G N sc slot b ss = true → PlS slot e → plH h → SuEnd slot (Ev.evS G.Γ (Ev.callF G.Γ G.T n) b e h)
  | .nil, ss, e, h, hc, p, ph => by unfold Ev.evS; exact ⟨ph, p⟩
  | .cons a r, st :: ss, e, h, hc, p, ph => by
    obtain ⟨j, x, y, l, py, ps, rfl, rfl, k1, k2, k3, k4, k5, k6, k7⟩ := chSu_cons hc
    show SuEnd slot (Ev.F.seq (Ev.F.ofR (Ev.evE G.Γ (Ev.callF G.Γ G.T n) x e h) e fun u h1 => .nx (e.set j (some u)) h1) fun e1 h1 => Ev.evS G.Γ (Ev.callF G.Γ G.T n) r e1 h1)
    cases z : Ev.evE G.Γ (Ev.callF G.Γ G.T n) x e h with
    | bad => trivial
    | exc _ _ _ => trivial
    | ok u h1 =>
      obtain ⟨ph1, pu⟩ := su_pure (n := n) k5 p ph z
      exact su_end k7 (p.set k1 pu) ph1
  | .cons a r, [], e, h, hc, p, ph => by cases hc
  | .asg _ _, ss, e, h, hc, _, _ => by cases ss <;> cases hc
  | .asub _ _ _, ss, e, h, hc, _, _ => by cases ss <;> cases hc
  | .afld _ _ _, ss, e, h, hc, _, _ => by cases ss <;> cases hc
  | .aug _ _ _, ss, e, h, hc, _, _ => by cases ss <;> cases hc
  | .augsub _ _ _ _, ss, e, h, hc, _, _ => by cases ss <;> cases hc
  | .augfld _ _ _ _, ss, e, h, hc, _, _ => by cases ss <;> cases hc
  | .ex _, ss, e, h, hc, _, _ => by cases ss <;> cases hc
  | .ret _, ss, e, h, hc, _, _ => by cases ss <;> cases hc
  | .ret0, ss, e, h, hc, _, _ => by cases ss <;> cases hc
  | .ifs _ _ _, ss, e, h, hc, _, _ => by cases ss <;> cases hc
  | .for _ _ _, ss, e, h, hc, _, _ => by cases ss <;> cases hc
  | .whl _ _, ss, e, h, hc, _, _ => by cases ss <;> cases hc
  | .rai _ _, ss, e, h, hc, _, _ => by cases ss <;> cases hc
  | .tri _ _, ss, e, h, hc, _, _ => by cases ss <;> cases hc
  | .hd _ _ _, ss, e, h, hc, _, _ => by cases ss <;> cases hc
  | .brk, ss, e, h, hc, _, _ => by cases ss <;> cases hc
  | .cnt, ss, e, h, hc, _, _ => by cases ss <;> cases hc
  | .pas, ss, e, h, hc, _, _ => by cases ss <;> cases hc
theorem hd_inv {k : Nat} {slot : Option Nat} {b : Ev.S} {h : ExceptHandler} (c : chHd G N sc (.hd k slot b) h = true) : ∃ (cx : Str) (px : Pos) (nm : Option Str) (st : Stmt) (ss : List Stmt) (pp : Pos),
    h = .ExceptHandler (some (.Name cx px)) nm (st :: ss) pp ∧ glbB sc cx = true ∧ nmB cx = true ∧ G.gc cx = some k ∧ G.hx k = true ∧
    (match slot, nm with
      | none, none => True
      | some i, some y => N[i]? = some y ∧ locB sc y = true
      | _, _ => False) ∧ chSu G N sc slot b (st :: ss) = true := by
  obtain ⟨t, nm, bd, pp⟩ := h
  match t, bd, c with
  | some (.Name cx px), st :: ss, c =>
    unfold chHd at c
    simp only [Bool.and_eq_true] at c
    obtain ⟨⟨⟨⟨⟨g1, g2⟩, g3⟩, g4⟩, g5⟩, g6⟩ := c
    refine ⟨cx, px, nm, st, ss, pp, rfl, g1, g2, by simpa using g3, g4, ?_, g6⟩
    match slot, nm, g5 with
    | none, none, _ => trivial
    | some i, some y, g5 =>
      simp only [Bool.and_eq_true, beq_iff_eq] at g5
      exact g5
theorem hmix (L : Xlo G n X) {c : Nat} {xs : List U} {e1 : Ev.Env} {h1 : AH} {r1 : List Addr} {H1 : Hp} {s1 : L2.St} {cls : Value} {d : Option Addr} {D : Ends} (R1 : RS G none r1 h1 H1) (E1 : REn G none r1 H1 e1 s1) (x : XR G none r1 H1 c xs cls d) (hc : G.Γ.xf c ≠ []) :
    ∀ (hs : Ev.S) (hds : List ExceptHandler), chHs G N sc hs hds = true → PF G none W (Ev.evH G.Γ (Ev.callF G.Γ G.T n) hs c xs e1 h1) r1 H1 D → wMix X.K W D (clOf G n hs) cls d s1 H1
  | .nil, hds, _, p => by
    unfold Ev.evH at p
    exact p r1 H1 s1 cls d (Ex.refl _ _) R1 E1 x
  | .cons a r, hds, ch, p => by
    cases hds with
    | nil => cases ch
    | cons hd hds =>
      unfold chHs at ch
      simp only [Bool.and_eq_true] at ch
      have ih := hmix L (D := D) R1 E1 x hc r hds ch.2
      have ch1 := ch.1
      cases a with
      | hd k slot b =>
        obtain ⟨cx, px, nm, st, ss, pp, rfl, g1, g2, g3, g4, g5, g6⟩ := hd_inv ch1
        obtain ⟨ecls, dd, fs, ws, ed, eH, kr, el, lk⟩ := id x
        refine ⟨G.Γ.sub c k, by rw [ecls]; exact L.hk c k hc g4, fun hb a ha => ?_, fun hb => ?_⟩
        · have pl := x.pl
          unfold Ev.evH Ev.evHd at p
          rw [if_pos hb] at p
          cases slot with
          | none =>
            dsimp only at p
            refine ⟨r1, e1, h1, R1.to R1.pl, E1.to E1.pl, ?_⟩
            have SE := su_end (n := n) (e := e1) (h := h1) g6 ⟨fun j u _ h => E1.pl j u h, fun j w h => by cases h⟩ R1.pl
            cases z : Ev.evS G.Γ (Ev.callF G.Γ G.T n) b e1 h1 with
            | nx e2 h2 =>
              rw [z] at p SE
              intro r2 H2 s2 X2 R2 E2
              exact p r2 H2 s2 X2 (R2.to SE.1) (E2.to (fun l w q => SE.2.pe l w (by simp) q))
            | exc _ _ _ _ => rw [z] at p; exact p.elim
            | bad => rw [z] at p; exact p.elim
            | rt _ _ => rw [z] at p; exact p.elim
            | bk _ _ => rw [z] at p; exact p.elim
            | ct _ _ => rw [z] at p; exact p.elim
          | some i =>
            dsimp only at p
            have hx : RU G (some (a, cls, d)) r1 H1 (.exc c xs) (.ref a) := ⟨a, dd, fs, ws, by rw [ecls, ed], rfl, eH, kr.to pl, el, lk⟩
            have E0 : REn G (some (a, cls, d)) r1 H1 (e1.set i (some (.exc c xs))) (s1.set i (some (.ref a))) := (E1.to E1.pl).set hx
            refine ⟨r1, _, h1, R1.to R1.pl, E0, ?_⟩
            have SE := su_end (n := n) (h := h1) g6 (PlS.ofSlot (c := c) E1.pl pl) R1.pl
            cases z : Ev.evS G.Γ (Ev.callF G.Γ G.T n) b (e1.set i (some (.exc c xs))) h1 with
            | nx e2 h2 =>
              rw [z] at p SE
              intro r2 H2 s2 X2 R2 E2
              exact p r2 H2 (s2.set i none) X2 (R2.to SE.1) (REn.to SE.2.unset E2.unset)
            | exc _ _ _ _ => rw [z] at p; exact p.elim
            | bad => rw [z] at p; exact p.elim
            | rt _ _ => rw [z] at p; exact p.elim
            | bk _ _ => rw [z] at p; exact p.elim
            | ct _ _ => rw [z] at p; exact p.elim
        · unfold Ev.evH Ev.evHd at p
          rw [if_neg (by rw [hb]; exact Bool.false_ne_true)] at p
          exact ih p
      | _ => cases ch1
  | .asg _ _, hds, ch, _ => by cases ch
  | .asub _ _ _, hds, ch, _ => by cases ch
  | .afld _ _ _, hds, ch, _ => by cases ch
  | .aug _ _ _, hds, ch, _ => by cases ch
  | .augsub _ _ _ _, hds, ch, _ => by cases ch
  | .augfld _ _ _ _, hds, ch, _ => by cases ch
  | .ex _, hds, ch, _ => by cases ch
  | .ret _, hds, ch, _ => by cases ch
  | .ret0, hds, ch, _ => by cases ch
  | .ifs _ _ _, hds, ch, _ => by cases ch
  | .for _ _ _, hds, ch, _ => by cases ch
  | .whl _ _, hds, ch, _ => by cases ch
  | .rai _ _, hds, ch, _ => by cases ch
  | .tri _ _, hds, ch, _ => by cases ch
  | .hd _ _ _, hds, ch, _ => by cases ch
  | .brk, hds, ch, _ => by cases ch
  | .cnt, hds, ch, _ => by cases ch
  | .pas, hds, ch, _ => by cases ch
end
end EvS
/-! EvY: walks over what is locked. -/
namespace EvS
open PySem PySem.Spec PyProof.Rows L2
open Ev (U AO AH DK)
section
variable {G : Sig} {xa : Xa} {W : WX} {n : Nat} {N : List Str} {sc : Scope} {X : Cx} {pos : Pos}
theorem REn.mono0 {r r' : List Addr} {H H' : Hp} {e : Ev.Env} {s : L2.St} (x : Ex0 r H r' H') (h : REn G xa r H e s) : REn G xa r' H' e s :=
  ⟨h.1, fun i u q => let ⟨v, a, b⟩ := h.2 i u q; ⟨v, a, b.mono0 x⟩⟩
/-- what may be walked while it is locked: a name, a name's field -/
def simD : Ev.E → Bool
  | .var _ => true
  | .fld o _ => match o with
    | .var _ => true
    | _ => false
  | _ => false
theorem sim_ev {d : Ev.E} {e : Ev.Env} {h : AH} (hd : simD d = true) : (∃ u, evE G n d e h = .ok u h) ∨ evE G n d e h = .bad := by
  unfold evE
  cases d with
  | var i =>
    unfold Ev.evE
    split
    · exact .inl ⟨_, rfl⟩
    · exact .inr rfl
  | fld o f =>
    cases o with
    | var i =>
      unfold Ev.evE Ev.evE
      split
      · simp only [Ev.R.bind, Ev.ofO]
        split
        · exact .inl ⟨_, rfl⟩
        · exact .inr rfl
      · exact .inr rfl
    | _ => cases hd
  | _ => cases hd
theorem ins_set {h : AH} {k m : Nat} {kvs : List (DK × U)} {o : AO} (hd : Ev.dicW h m = some kvs) {p : Nat × List (Nat × U)} (hi : Ev.insAt h k = some p) : Ev.insAt (h.set m o) k = some p := by
  have ne : m ≠ k := fun e => by
    subst e
    unfold Ev.dicW at hd
    unfold Ev.insAt at hi
    split at hd
    case _ z => rw [z] at hi; cases hi
    case _ => cases hd
  unfold Ev.insAt at hi ⊢
  rw [List.getElem?_set_ne ne]
  exact hi
theorem sim_frz {d : Ev.E} {e : Ev.Env} {h : AH} {m : Nat} {u : U} {kvs : List (DK × U)} {o : AO} (hd : simD d = true) (hm : Ev.dicW h m = some kvs) (q : evE G n d e h = .ok u h) : evE G n d e (h.set m o) = .ok u (h.set m o) := by
  unfold evE at q ⊢
  cases d with
  | var i =>
    unfold Ev.evE at q ⊢
    split at q
    · cases q; rfl
    · cases q
  | fld ob f =>
    cases ob with
    | var i =>
      unfold Ev.evE Ev.evE at q ⊢
      cases z : e[i]? with
      | none => rw [z] at q; cases q
      | some ow =>
      cases ow with
      | none => rw [z] at q; cases q
      | some w =>
      rw [z] at q
      simp only [Ev.R.bind] at q ⊢
      cases w with
      | ref k =>
        simp only [Ev.evFld] at q ⊢
        cases z2 : Ev.insAt h k with
        | none => rw [z2] at q; cases q
        | some p =>
          rw [z2] at q
          rw [ins_set hm z2]
          obtain ⟨c, fs⟩ := p
          dsimp only at q ⊢
          split at q
          case isTrue hf =>
            rw [if_pos hf]
            cases z3 : Ev.lookF fs f with
            | none => rw [z3] at q; cases q
            | some x => rw [z3] at q; cases q; rfl
          case isFalse => cases q
      | exc c xs =>
        simp only [Ev.evFld] at q ⊢
        cases z3 : Ev.fnd f (G.Γ.xf c) xs with
        | none => rw [z3] at q; cases q
        | some x => rw [z3] at q; cases q; rfl
      | _ => cases q
    | _ => cases hd
  | _ => cases hd
/-- for, over a dict, locked -/
theorem s_forD {p : Ev.P} {it d : Ev.E} {b : Ev.S} {tg iter : Expr} {body : List Stmt} {wi : TI} {items : List (DK × U) → List U} {J : Addr → Obj → List (Key × V) → It} (hp : PassesOwn (model X.prog X.w) X.A X.env X.xe) (hc : X.calm = true) (hset : noSet iter = true) (hd : simD d = true)
    (hi : PI X tg iter wi) (hwi : ∀ σ H R', (tE G xa W n d σ H fun x H1 => ∃ dd o kvs, x = .ref dd ∧ H1 dd = some (.frz o (.dK kvs)) ∧ R' (J dd o kvs) H1) → wi σ H R')
    (hit : ∀ e h, Ev.evIt G.Γ (Ev.callF G.Γ G.T n) it e h = (evE G n d e h).bind fun u h1 => match u with
      | .ref k => match Ev.dicW h1 k with
        | some kvs => .ok ⟨items kvs, [], some k⟩ h1
        | none => .bad
      | _ => .bad)
    (hJ : ∀ (r1 : List Addr) (H1 : Hp) (dd : Addr) (od : Obj) (ks : List (Key × V)) (kvs : List (DK × U)), H1 dd = some (.frz od (.dK ks)) → RKv G xa r1 H1 kvs ks → ItG G xa r1 H1 (items kvs) (fun _ => true) (J dd od ks))
    (hg : PG X tg (tP G xa p)) (hb : PSs X body (tS G xa W n b)) : PS X (.For tg iter body [] pos) (tS G xa W n (.for p it b)) := by
  refine PS.imp (ps_lock (ps_for hp hc hi hg hb (fold_no hset))) fun D s H ⟨r, e, h, R, E, q⟩ => ?_
  unfold Ev.evS at q
  rw [hit] at q
  rcases sim_ev (G := G) (n := n) (e := e) (h := h) hd with ⟨u, z⟩ | z
  · rw [z] at q
    simp only [Ev.R.bind] at q
    cases u with
    | ref m =>
      dsimp only at q
      cases z2 : Ev.dicW h m with
      | none => rw [z2] at q; exact q.elim
      | some kvs =>
        rw [z2] at q
        simp only [Ev.F.ofR] at q
        rw [z2] at q
        have hlt : m < r.length := by
          rw [R.len]
          unfold Ev.dicW at z2
          split at z2
          case _ zz => exact (List.getElem?_eq_some_iff.mp zz).1
          case _ => cases z2
        have ra0 : r[m]? = some r[m] := List.getElem?_eq_getElem hlt
        obtain ⟨dd, ks, edd, ra, t1, kv⟩ := R.dicWr z2 (v := .ref r[m]) ⟨_, ra0, rfl⟩
        refine ⟨dd, .dK ks, t1, trivial, fun od => ?_⟩
        have XL : Ex r H r (upd H dd (.frz od (.dK ks))) := ex_write t1 trivial
        have RL : RS G xa r (h.set m (.frz (.dic kvs))) (upd H dd (.frz od (.dK ks))) := R.write ra t1 trivial (RO.mono XL (o := .frz (.dic kvs)) (u := .frz od (.dK ks)) ⟨od, _, rfl, ks, rfl, kv⟩)
        refine hwi _ _ _ ⟨r, e, _, RL, E.mono XL, ?_⟩
        rw [sim_frz hd z2 z]
        intro r1 H1 v X1 R1 k1
        have ra1 : r1[m]? = some dd := X1.pre _ _ ra
        have ev : v = .ref dd := by
          obtain ⟨a, e1, e2⟩ := (show RU G xa r1 H1 (.ref m) v from k1)
          rw [ra1] at e1
          cases e1
          exact e2
        have t2 : H1 dd = some (.frz od (.dK ks)) := X1.frz _ _ _ upd_same
        refine ⟨dd, od, ks, ev, t2, ?_⟩
        refine for_walk R1 ((E.mono XL).mono X1) (hJ r1 H1 dd od ks kvs t2 ((kv.mono XL).mono X1)) ?_
        have q2 : PF G xa W (Ev.F.unlock m (.dic kvs) (Ev.forL (fun _ => true) (forB G n p b) (items kvs) e (h.set m (.frz (.dic kvs))))) r H D := q
        have back : ∀ {r2 : List Addr} {H2 : Hp}, Ex r1 H1 r2 H2 → H2 dd = some (.frz od (.dK ks)) ∧ Ex r H r2 (upd H2 dd (.dK ks)) := fun {r2 H2} X2 => by
          have X3 := (XL.trans X1).trans X2
          refine ⟨X2.frz _ _ _ t2, X3.pre, fun a xs g => ?_, fun a xs g => ?_, fun a o x g => ?_⟩
          · rw [upd_ne (fun e => by rw [e, t1] at g; cases g)]; exact X3.tup a xs g
          · rw [upd_ne (fun e => by rw [e, t1] at g; cases g)]; exact X3.xd a xs g
          · rw [upd_ne (fun e => by rw [e, t1] at g; cases g)]; exact X3.frz a o x g
        have unl : ∀ {r2 : List Addr} {H2 : Hp} {h2 : AH}, Ex r1 H1 r2 H2 → RS G xa r2 h2 H2 → RS G xa r2 (h2.set m (.dic kvs)) (upd H2 dd (.dK ks)) := fun {r2 H2 h2} X2 R2 =>
          R2.unlock (X2.pre _ _ ra1) (X2.frz _ _ _ t2) ⟨ks, rfl, ((kv.mono XL).mono X1).mono X2⟩
        cases z5 : Ev.forL (fun _ => true) (forB G n p b) (items kvs) e (h.set m (.frz (.dic kvs))) with
        | nx e2 h2 =>
          rw [z5] at q2
          intro r2 H2 s2 X2 R2 E2
          obtain ⟨b1, b2⟩ := back X2
          exact ⟨b1, q2 r2 _ s2 b2 (unl X2 R2) (E2.mono0 (ex_unlock (u := .dK ks) b1))⟩
        | rt u2 h2 =>
          rw [z5] at q2
          intro r2 H2 v2 X2 R2 k2
          obtain ⟨b1, b2⟩ := back X2
          exact ⟨b1, q2 r2 _ v2 b2 (unl X2 R2) (k2.mono0 (ex_unlock (u := .dK ks) b1))⟩
        | bk _ _ => rw [z5] at q2; exact q2.elim
        | ct _ _ => rw [z5] at q2; exact q2.elim
        | exc _ _ _ _ => rw [z5] at q2; exact q2.elim
        | bad => rw [z5] at q2; exact q2.elim
    | _ => exact q.elim
  · rw [z] at q
    exact q.elim
theorem RKv.at {r : List Addr} {H : Hp} : ∀ {kvs : List (DK × U)} {ks : List (Key × V)} {i : Nat} {k : Key} {v : V}, RKv G xa r H kvs ks → ks[i]? = some (k, v) → ∃ dk u, kvs[i]? = some (dk, u) ∧ k = mkK dk ∧ RU G xa r H u v
  | [], _, i, k, v, h, q => by cases h; simp at q
  | p :: kvs, _, 0, k, v, h, q => by
    cases h with
    | cons h1 h2 =>
      simp at q
      subst q
      exact ⟨p.1, p.2, rfl, h1.1, h1.2⟩
  | p :: kvs, _, i + 1, k, v, h, q => by
    cases h with
    | cons h1 h2 =>
      obtain ⟨dk, u, e, e1, e2⟩ := RKv.at h2 (by simpa using q)
      exact ⟨dk, u, by simpa using e, e1, e2⟩
theorem it_vals {r1 : List Addr} {H1 : Hp} {dd : Addr} {od : Obj} {ks : List (Key × V)} {kvs : List (DK × U)} (t : H1 dd = some (.frz od (.dK ks))) (k : RKv G xa r1 H1 kvs ks) : ItG G xa r1 H1 (kvs.map (·.2)) (fun _ => true) (Itd dd od ks) where
  go i r h H hi X R _ := ⟨X.frz _ _ _ t, by rw [← k.length]; simpa using hi⟩
  stop r h H X R _ := ⟨X.frz _ _ _ t, by rw [← k.length]; simp⟩
  yld i u r h H x H' hu X R _ y := by
    obtain ⟨rfl, kk, e⟩ := y
    obtain ⟨dk, w, e1, _, e2⟩ := k.at e
    have : u = w := by
      rw [List.getElem?_map, e1] at hu
      simpa using hu.symm
    subst this
    exact ⟨Ex.refl _ _, R, e2.mono X⟩
theorem it_keys {r1 : List Addr} {H1 : Hp} {dd : Addr} {od : Obj} {ks : List (Key × V)} {kvs : List (DK × U)} (t : H1 dd = some (.frz od (.dK ks))) (k : RKv G xa r1 H1 kvs ks) : ItG G xa r1 H1 (Ev.keysU kvs) (fun _ => true) (Itk dd od ks) where
  go i r h H hi X R _ := ⟨X.frz _ _ _ t, by rw [← k.length]; simpa [Ev.keysU] using hi⟩
  stop r h H X R _ := ⟨X.frz _ _ _ t, by rw [← k.length]; simp [Ev.keysU]⟩
  yld i u r h H x H' hu X R _ y := by
    obtain ⟨rfl, kk, v, e, rfl⟩ := y
    obtain ⟨dk, w, e1, rfl, e2⟩ := k.at e
    have : u = Ev.keyU dk := by
      unfold Ev.keysU at hu
      rw [List.getElem?_map, e1] at hu
      simpa using hu.symm
    subst this
    refine ⟨Ex.refl _ _, R, ?_⟩
    cases dk <;> rfl
theorem it_items {r1 : List Addr} {H1 : Hp} {dd : Addr} {od : Obj} {ks : List (Key × V)} {kvs : List (DK × U)} (t : H1 dd = some (.frz od (.dK ks))) (k : RKv G xa r1 H1 kvs ks) : ItG G xa r1 H1 (kvs.map fun kv => .tup [Ev.keyU kv.1, kv.2]) (fun _ => true) (Iti dd od ks) where
  go i r h H hi X R _ := ⟨X.frz _ _ _ t, by rw [← k.length]; simpa using hi⟩
  stop r h H X R _ := ⟨X.frz _ _ _ t, by rw [← k.length]; simp⟩
  yld i u r h H x H' hu X R _ y := by
    obtain ⟨T, kk, v, e, rfl, hT, rfl⟩ := y
    obtain ⟨dk, w, e1, rfl, e2⟩ := k.at e
    have : u = .tup [Ev.keyU dk, w] := by
      rw [List.getElem?_map, e1] at hu
      simpa using hu.symm
    subst this
    have X3 : Ex r H r (upd H T (.tup [kV (mkK dk), v])) := ex_upd hT
    refine ⟨X3, R.beside hT, T, _, rfl, .inl upd_same, RUs.cons ?_ (RUs.cons ((e2.mono X).mono X3) RUs.nil)⟩
    cases dk <;> rfl
end
end EvS
/-! EvZ: every statement that passes the check. -/
namespace EvS
open PySem PySem.Spec PyProof.Rows L2
open Ev (U AO AH DK)

structure Oks (G : Sig) (W : WX) (n : Nat) (N : List Str) (sc : Scope) (X : Cx) : Prop where
  ok : Okx G none W n false N sc X
  xl : Xlo G n X
  po : PassesOwn (model X.prog X.w) X.A X.env X.xe
  stk : X.stack = X.env :: X.outer
  frm : X.env.frame = some X.env.locals
  fnt : ∀ y, X.fn y = true
def cellB (sc : Scope) (x : Str) : Bool := match sc.names.lookup x with
  | some .cell => true
  | _ => false
def isFn (sc : Scope) : Bool := match sc.kind with
  | .function => true
  | _ => false
def isLc : Ev.E → Bool
  | .lc _ _ _ _ _ => true
  | _ => false
/-- name = [..]: what the swap asks -/
def chSw (sc : Scope) (y : Str) (py : Pos) : Expr → Bool
  | .ListComp _ _ scope p2 => cellB sc y || locB sc y && py.line == p2.line && isFn sc && !(scope.names.any fun (n, k) => n == y && (k == .local || k == .cell))
  | _ => false
/-- a walk over a dict: its name, the dict's syntax -/
def chD (G : Sig) (N : List Str) : Ev.E → Scope → Expr → Bool → Bool
  | .ivalues d, sc, .Call (.Attribute y z apos) [] [] pos, _ => simD d && decide (z = "values") && apos.endLine == pos.line && noSuper y && chE G false N d false sc y
  | .iitems d, sc, .Call (.Attribute y z apos) [] [] pos, tp => tp && simD d && decide (z = "items") && apos.endLine == pos.line && noSuper y && chE G false N d false sc y
  | .ikeys d, sc, y, _ => simD d && chE G false N d false sc y
  | _, _, _, _ => false
def chop : Ev.BOp → Operator → Bool
  | .add, .Add => true
  | .sub, .Sub => true
  | _, _ => false
mutual
def chS (G : Sig) (N : List Str) (sc : Scope) : Ev.S → Stmt → Bool
  | .asg p x, .Assign [t] l _ => match p, t with
    | .name i, .Name y py => N[i]? == some y && lcB sc y && chE G false N x false sc l && (if isLc x then chSw sc y py l else noComp l)
    | .tup ps, t => isTupE t && chP N true sc (.tup ps) t && noTup l && chE G false N x false sc l
    | _, _ => false
  | .asub o i x, .Assign [.Subscript lo li _] l _ => noSlice li && chE G false N o false sc lo && chE G false N i false sc li && chE G false N x false sc l
  | .afld o f x, .Assign [.Attribute lo y _] l _ => G.an[f]? == some y && chE G false N o false sc lo && chE G false N x false sc l
  | .aug i op x, .AugAssign (.Name y _) o l _ => N[i]? == some y && lcB sc y && chop op o && chE G false N x false sc l
  | .ex x, .Expr l _ => noComp l && chE G false N x false sc l
  | .ret x, .Return (some l) _ => chE G false N x false sc l
  | .ret0, .Return none _ => true
  | .ifs t a b, .If c la lb _ => chE G false N t true sc c && chSs G N sc a la && chSs G N sc b lb
  | .for p it b, .For tg iter body [] _ => noSet iter && chP N true sc p tg && (chI G false N it sc iter (isTupE tg) || chD G N it sc iter (isTupE tg)) && chSs G N sc b body
  | .whl t b, .While c body [] _ => chE G false N t true sc c && chSs G N sc b body
  | .rai c es, .Raise (some (.Call (.Name x _) (y :: ys) [] _)) none _ => glbB sc x && nmB x && G.gc x == some c && !(G.Γ.xf c).isEmpty && chEs G false N es false sc (y :: ys)
  | .tri b hs, .Try body (h0 :: hds) [] [] _ => chSs G N sc b body && chHs G N sc hs (h0 :: hds)
  | .brk, .Break _ => true
  | .cnt, .Continue _ => true
  | .pas, .Pass _ => true
  | _, _ => false
termination_by structural x => x
def chSs (G : Sig) (N : List Str) (sc : Scope) : Ev.S → List Stmt → Bool
  | .nil, [] => true
  | .cons a b, s :: r => chS G N sc a s && chSs G N sc b r
  | _, _ => false
termination_by structural x => x
end
section
variable {G : Sig} {W : WX} {n : Nat} {N : List Str} {sc : Scope} {X : Cx} {pos : Pos}
theorem chI_lk {hot : Bool} {it : Ev.E} {iter : Expr} {tp : Bool} (h : chI G hot N it sc iter tp = true) : ∀ e h1 t h2, Ev.evIt G.Γ (Ev.callF G.Γ G.T n) it e h1 = .ok t h2 → t.lk = none := by
  intro e h1 t h2 q
  cases it with
  | iseq a =>
    unfold Ev.evIt at q
    obtain ⟨u, h3, _, q⟩ := bind_ok q
    unfold Ev.itSeq at q
    cases u with
    | tup xs => cases q; rfl
    | str s => cases q; rfl
    | ref m => dsimp only at q; cases z : Ev.lstAt h3 m with
      | none => rw [z] at q; cases q
      | some xs => rw [z] at q; cases q; rfl
    | _ => cases q
  | irange1 a =>
    unfold Ev.evIt at q
    obtain ⟨u, h3, _, q⟩ := bind_ok q
    unfold Ev.itR1 at q
    cases u with
    | int i => dsimp only at q; split at q <;> cases q; rfl
    | _ => cases q
  | irange2 a b =>
    unfold Ev.evIt at q
    obtain ⟨u, h3, _, q⟩ := bind_ok q
    obtain ⟨v, h4, _, q⟩ := bind_ok q
    unfold Ev.itR2 at q
    split at q
    · split at q <;> cases q; rfl
    · cases q
  | ienum a =>
    unfold Ev.evIt at q
    obtain ⟨u, h3, _, q⟩ := bind_ok q
    unfold Ev.itEn at q
    cases u with
    | ref m => dsimp only at q; cases z : Ev.lstAt h3 m with
      | none => rw [z] at q; cases q
      | some xs => rw [z] at q; cases q; rfl
    | tup xs => cases q; rfl
    | _ => cases q
  | izip a b =>
    unfold Ev.evIt at q
    obtain ⟨u, h3, _, q⟩ := bind_ok q
    obtain ⟨v, h4, _, q⟩ := bind_ok q
    unfold Ev.itZip at q
    split at q
    · cases q; rfl
    · split at q
      · cases q; rfl
      · cases q
    · cases q
  | _ => cases h
theorem su_pss {xa : Xa} {X' : Cx} {slot : Option Nat} (O : Okx G xa fls n true N sc X') (ft : ∀ x, X'.fn x = true) : ∀ {b : Ev.S} {ss : List Stmt}, chSu G N sc slot b ss = true → PSs X' ss (tS G xa fls n b)
  | .nil, ss, h => by
    cases ss with
    | nil => exact s_nil
    | cons _ _ => cases h
  | .cons a r, st :: ss, h => by
    obtain ⟨j, x, y, l, py, ps, rfl, rfl, k1, k2, k3, k4, k5, k6, k7⟩ := chSu_cons h
    exact s_cons (s_set O.hN O.nd O.hsc k2 k3 ft (fun ln env _ => swap_no k4) ((sE x O k6).1 rfl)) (su_pss O ft k7)
  | .cons a r, [], h => by cases h
  | .asg _ _, ss, h => by cases ss <;> cases h
  | .asub _ _ _, ss, h => by cases ss <;> cases h
  | .afld _ _ _, ss, h => by cases ss <;> cases h
  | .aug _ _ _, ss, h => by cases ss <;> cases h
  | .augsub _ _ _ _, ss, h => by cases ss <;> cases h
  | .augfld _ _ _ _, ss, h => by cases ss <;> cases h
  | .ex _, ss, h => by cases ss <;> cases h
  | .ret _, ss, h => by cases ss <;> cases h
  | .ret0, ss, h => by cases ss <;> cases h
  | .ifs _ _ _, ss, h => by cases ss <;> cases h
  | .for _ _ _, ss, h => by cases ss <;> cases h
  | .whl _ _, ss, h => by cases ss <;> cases h
  | .rai _ _, ss, h => by cases ss <;> cases h
  | .tri _ _, ss, h => by cases ss <;> cases h
  | .hd _ _ _, ss, h => by cases ss <;> cases h
  | .brk, ss, h => by cases ss <;> cases h
  | .cnt, ss, h => by cases ss <;> cases h
  | .pas, ss, h => by cases ss <;> cases h
theorem mix_of (O : Oks G W n N sc X) : ∀ (hs : Ev.S) (hds : List ExceptHandler), chHs G N sc hs hds = true → HMix X hds (clOf G n hs)
  | .nil, hds, h => by
    cases hds with
    | nil => exact .nil
    | cons _ _ => cases h
  | .cons a r, hds, h => by
    cases hds with
    | nil => cases h
    | cons hd hds =>
      unfold chHs at h
      simp only [Bool.and_eq_true] at h
      have ih := mix_of O r hds h.2
      have h1 := h.1
      cases a with
      | hd k slot b =>
        obtain ⟨cx, px, nm, st, ss, pp, rfl, g1, g2, g3, g4, g5, g6⟩ := hd_inv h1
        refine HMix.cons (q := ⟨.ref (G.ca k), slot, fun a cls d => tS G (some (a, cls, d)) fls n _⟩) ⟨gl_of O.ok g1, (nmB_ok g2).1, .inl (O.ok.glo.gc cx k g3)⟩ ?_ (fun a oe cls d pn hz hf => ?_) ih
        · cases slot with
          | none => cases nm with
            | none => trivial
            | some z => exact g5.elim
          | some i => cases nm with
            | none => exact g5.elim
            | some z =>
              refine ⟨by rw [O.ok.hN]; exact g5.1, ?_⟩
              show X.env.scope.names.lookup z = _
              rw [O.ok.hsc]
              exact locB_ok g5.2
        · have O' := O.ok.suite O.xl (a := a) (pn := pn) hz hf O.ok.un
          exact su_pss O' O.fnt g6
      | _ => cases h1
  | .asg _ _, hds, ch => by cases ch
  | .asub _ _ _, hds, ch => by cases ch
  | .afld _ _ _, hds, ch => by cases ch
  | .aug _ _ _, hds, ch => by cases ch
  | .augsub _ _ _ _, hds, ch => by cases ch
  | .augfld _ _ _ _, hds, ch => by cases ch
  | .ex _, hds, ch => by cases ch
  | .ret _, hds, ch => by cases ch
  | .ret0, hds, ch => by cases ch
  | .ifs _ _ _, hds, ch => by cases ch
  | .for _ _ _, hds, ch => by cases ch
  | .whl _ _, hds, ch => by cases ch
  | .rai _ _, hds, ch => by cases ch
  | .tri _ _, hds, ch => by cases ch
  | .hd _ _ _, hds, ch => by cases ch
  | .brk, hds, ch => by cases ch
  | .cnt, hds, ch => by cases ch
  | .pas, hds, ch => by cases ch
theorem s_tri {b hs : Ev.S} {body : List Stmt} {h0 : ExceptHandler} {hds : List ExceptHandler} (O : Oks G W n N sc X) (hh : chHs G N sc hs (h0 :: hds) = true) (hb : ∀ (W' : WX) (X' : Cx), Oks G W' n N sc X' → PSs X' body (tS G none W' n b)) :
    PS X (.Try body (h0 :: hds) [] [] pos) (tS G none W n (.tri b hs)) := by
  obtain ⟨cm, hr, tk, _⟩ := O.ok.cold rfl
  refine PS.imp (ps_mix O.stk O.frm (by rw [O.ok.hN]; exact O.ok.nd) tk (tb := fun W' => tS G none W' n b) (fun W' pn xe tk' po' => hb W' _ ⟨O.ok.tr tk', O.xl.tr, po', O.stk, O.frm, O.fnt⟩) (mix_of O hs _ hh)) fun D s H ⟨r, e, h, R, E, p⟩ => ⟨r, e, h, R, E, ?_⟩
  unfold Ev.evS at p
  cases z : Ev.evS G.Γ (Ev.callF G.Γ G.T n) b e h with
  | nx e1 h1 => rw [z] at p; exact p
  | rt u h1 => rw [z] at p; exact p
  | bk e1 h1 => rw [z] at p; exact p
  | ct e1 h1 => rw [z] at p; exact p
  | bad => rw [z] at p; exact p
  | exc c xs e1 h1 =>
    rw [z] at p
    dsimp only at p
    intro r1 H1 s1 cls d X1 R1 E1 x1
    have hc : G.Γ.xf c ≠ [] := fun ez => by
      rw [ez] at p
      exact p
    have p2 : PF G none W (Ev.evH G.Γ (Ev.callF G.Γ G.T n) hs c xs e1 h1) r H D := by
      split at p
      · exact p.elim
      · exact p
    exact hmix O.xl R1 E1 x1 hc hs _ hh (PF.mono X1 p2)
mutual
theorem sS : ∀ (st : Ev.S) {W : WX} {N : List Str} {sc : Scope} {X : Cx} {t : Stmt}, Oks G W n N sc X → chS G N sc st t = true → PS X t (tS G none W n st)
  | .asg p x, W, N, sc, X, t, O, h => by
    obtain ⟨cm, _, _, _⟩ := O.ok.cold rfl
    cases t with
    | Assign ts l pos =>
      match ts, h with
      | [tg], h =>
        unfold chS at h
        match p, tg, h with
        | .name i, .Name y py, h =>
          simp only [Bool.and_eq_true, beq_iff_eq] at h
          obtain ⟨⟨⟨h1, h2⟩, h3⟩, h4⟩ := h
          cases hx : isLc x with
          | false =>
            rw [hx] at h4
            exact s_set O.ok.hN O.ok.nd O.ok.hsc h1 h2 O.fnt (fun ln env _ => swap_no h4) ((sE x O.ok h3).1 rfl)
          | true =>
            rw [hx] at h4
            match x, l, h3, h4 with
            | .lc elt p it c own, .ListComp xx [⟨tg, iter, ifs, 0⟩] scope p2, h3, h4 =>
              have h4' : (cellB sc y || locB sc y && py.line == p2.line && isFn sc && !(scope.names.any fun (n, k) => n == y && (k == .local || k == .cell))) = true := h4
              simp only [Bool.or_eq_true, Bool.and_eq_true, Bool.not_eq_true'] at h4'
              rcases h4' with hcell | ⟨⟨⟨s0, s1⟩, s2⟩, s3⟩
              · have ec : X.env.scope.names.lookup y = some .cell := by
                  rw [O.ok.hsc]
                  unfold cellB at hcell
                  split at hcell
                  · assumption
                  · cases hcell
                exact s_set O.ok.hN O.ok.nd O.ok.hsc h1 h2 O.fnt (fun ln env e => by rw [e]; exact sw_cell ec) ((sE _ O.ok h3).1 rfl)
              unfold chE at h3
              simp only [Bool.and_eq_true, Bool.not_eq_true', decide_eq_true_eq] at h3
              obtain ⟨⟨⟨⟨⟨⟨⟨⟨hh, h1'⟩, h2'⟩, h3'⟩, h4'⟩, h5⟩, h6⟩, h7⟩, h8⟩ := h3
              refine s_setLc O.ok h1 s0 s1 ?_ s3 h1' (fun i hi => by have := List.all_eq_true.mp h2' i hi; simpa using this) h3' h4' (sI it O.ok h5) (fun X' O' => (sE elt O' h6).1 rfl) (fun X' O' => ?_)
              · unfold isFn at s2
                split at s2
                · assumption
                · cases s2
              · have k := sEs c O' h7
                match ifs, k, h8 with
                | [], k, _ => rw [k.nil rfl]; exact tc_nil
                | [l], k, _ =>
                  obtain ⟨a, rfl, ha⟩ := k.one l rfl
                  exact tc_one (ha.2 rfl)
                | _ :: _ :: _, _, h8 => exact absurd h8 (by simp)
        | .tup ps, tg, h =>
          simp only [Bool.and_eq_true] at h
          obtain ⟨⟨⟨h1, h2⟩, h3⟩, h4⟩ := h
          cases tg with
          | Tuple es k tp => exact s_asg O.ok.hN O.ok.nd O.ok.hsc O.ok.glo.hK cm O.fnt h2 h3 ((sE x O.ok h4).1 rfl)
          | _ => cases h1
    | _ => cases h
  | .asub o i x, W, N, sc, X, t, O, h => by
    cases t with
    | Assign ts l pos =>
      match ts, h with
      | [.Subscript lo li p2], h =>
        unfold chS at h
        simp only [Bool.and_eq_true] at h
        exact s_sub O.ok h.1.1.1 ((sE o O.ok h.1.1.2).1 rfl) ((sE i O.ok h.1.2).1 rfl) ((sE x O.ok h.2).1 rfl)
    | _ => cases h
  | .afld o f x, W, N, sc, X, t, O, h => by
    cases t with
    | Assign ts l pos =>
      match ts, h with
      | [.Attribute lo y p2], h =>
        unfold chS at h
        simp only [Bool.and_eq_true, beq_iff_eq] at h
        exact s_fld O.ok h.1.1 ((sE o O.ok h.1.2).1 rfl) ((sE x O.ok h.2).1 rfl)
    | _ => cases h
  | .aug i op x, W, N, sc, X, t, O, h => by
    cases t with
    | AugAssign tg o l pos =>
      cases tg with
      | Name y py =>
        unfold chS at h
        simp only [Bool.and_eq_true, beq_iff_eq] at h
        obtain ⟨⟨⟨h1, h2⟩, h3⟩, h4⟩ := h
        refine s_aug O.ok.hN O.ok.nd O.ok.hsc h1 h2 O.fnt ?_ ((sE x O.ok h4).1 rfl)
        cases op <;> cases o <;> first | exact .inl ⟨rfl, rfl⟩ | exact .inr ⟨rfl, rfl⟩ | cases h3
      | _ => cases h
    | _ => cases h
  | .ex x, W, N, sc, X, t, O, h => by
    cases t with
    | Expr l pos =>
      unfold chS at h
      simp only [Bool.and_eq_true] at h
      exact s_ex h.1 ((sE x O.ok h.2).1 rfl)
    | _ => cases h
  | .ret x, W, N, sc, X, t, O, h => by
    cases t with
    | Return l pos =>
      cases l with
      | some l => exact s_ret ((sE x O.ok h).1 rfl)
      | none => cases h
    | _ => cases h
  | .ret0, W, N, sc, X, t, O, h => by
    cases t with
    | Return l pos =>
      cases l with
      | some l => cases h
      | none => exact s_ret0
    | _ => cases h
  | .ifs t a b, W, N, sc, X, s, O, h => by
    cases s with
    | If c la lb pos =>
      unfold chS at h
      simp only [Bool.and_eq_true] at h
      exact s_if ((sE t O.ok h.1.1).2 rfl) (sSs a O h.1.2) (sSs b O h.2)
    | _ => cases h
  | .for p it b, W, N, sc, X, s, O, h => by
    obtain ⟨cm, _, _, _⟩ := O.ok.cold rfl
    cases s with
    | For tg iter body orelse pos =>
      cases orelse with
      | nil =>
        unfold chS at h
        simp only [Bool.and_eq_true, Bool.or_eq_true] at h
        obtain ⟨⟨⟨h1, h2⟩, h3⟩, h4⟩ := h
        have hg := p_any (xa := none) O.ok.hN O.ok.nd O.ok.hsc O.ok.glo.hK cm (cl := true) (fun _ => O.fnt) p tg h2
        have hb := sSs b O h4
        rcases h3 with h3 | h3
        · exact s_for O.po cm h1 (chI_lk h3) (sI it O.ok h3) hg hb
        · cases it with
          | ivalues d =>
            match iter, h3 with
            | .Call (.Attribute y z apos) [] [] p2, h3 =>
              unfold chD at h3
              simp only [Bool.and_eq_true, decide_eq_true_eq] at h3
              obtain ⟨⟨⟨⟨k1, rfl⟩, k2⟩, k3⟩, k4⟩ := h3
              exact s_forD (items := fun kvs => kvs.map (·.2)) (J := Itd) O.po cm h1 k1 (pi_values ((sE d O.ok k4).1 rfl) (base_of k3) k2) (fun σ H R' q => q) (fun e h => rfl) (fun r1 H1 dd od ks kvs t k => it_vals t k) hg hb
          | iitems d =>
            match iter, h3 with
            | .Call (.Attribute y z apos) [] [] p2, h3 =>
              unfold chD at h3
              simp only [Bool.and_eq_true, decide_eq_true_eq] at h3
              obtain ⟨⟨⟨⟨⟨k0, k1⟩, rfl⟩, k2⟩, k3⟩, k4⟩ := h3
              cases tg with
              | Tuple es kk tp => exact s_forD (items := fun kvs => kvs.map fun kv => .tup [Ev.keyU kv.1, kv.2]) (J := Iti) O.po cm h1 k1 (pi_items ((sE d O.ok k4).1 rfl) (base_of k3) k2) (fun σ H R' q => q) (fun e h => rfl) (fun r1 H1 dd od ks kvs t k => it_items t k) hg hb
              | _ => cases k0
          | ikeys d =>
            unfold chD at h3
            simp only [Bool.and_eq_true] at h3
            refine s_forD (items := Ev.keysU) (J := Itk) O.po cm h1 h3.1 (pi_keys ((sE d O.ok h3.2).1 rfl)) (fun σ H R' q => ?_) (fun e h => rfl) (fun r1 H1 dd od ks kvs t k => it_keys t k) hg hb
            obtain ⟨r, e, h, R, E, pp⟩ := q
            refine ⟨r, e, h, R, E, ?_⟩
            cases z : evE G n d e h with
            | ok u h1 =>
              rw [z] at pp
              intro r1 H1 v X1 R1 k1
              obtain ⟨dd, o, kvs, e1, e2, q⟩ := pp r1 H1 v X1 R1 k1
              exact ⟨dd, o, e1, .inl ⟨kvs, e2, q⟩⟩
            | exc _ _ _ => rw [z] at pp; exact pp
            | bad => rw [z] at pp; exact pp
          | _ => cases h3
      | cons _ _ => cases h
    | _ => cases h
  | .whl t b, W, N, sc, X, s, O, h => by
    cases s with
    | While c body orelse pos =>
      cases orelse with
      | nil =>
        unfold chS at h
        simp only [Bool.and_eq_true] at h
        exact s_whl O.po ((sE t O.ok h.1).2 rfl) (sSs b O h.2)
      | cons _ _ => cases h
    | _ => cases h
  | .rai c es, W, N, sc, X, s, O, h => by
    cases s with
    | Raise e cause pos =>
      match e, cause, h with
      | some (.Call (.Name x p) (y :: ys) [] p2), none, h =>
        unfold chS at h
        simp only [Bool.and_eq_true, beq_iff_eq, Bool.not_eq_true'] at h
        obtain ⟨⟨⟨⟨h1, h2⟩, h3⟩, h4⟩, h5⟩ := h
        exact s_rai O.ok O.xl h1 h2 h3 (fun e => by rw [e] at h4; cases h4) (es_star h5) ((sEs es O.ok h5).pa rfl)
    | _ => cases h
  | .tri b hs, W, N, sc, X, s, O, h => by
    cases s with
    | Try body hds orelse fin pos =>
      match hds, orelse, fin, h with
      | h0 :: hds, [], [], h =>
        unfold chS at h
        simp only [Bool.and_eq_true] at h
        exact s_tri O h.2 fun W' X' O' => sSs b O' h.1
    | _ => cases h
  | .brk, W, N, sc, X, s, O, h => by
    cases s with
    | Break _ => exact s_brk
    | _ => cases h
  | .cnt, W, N, sc, X, s, O, h => by
    cases s with
    | Continue _ => exact s_cnt
    | _ => cases h
  | .pas, W, N, sc, X, s, O, h => by
    cases s with
    | Pass _ => exact s_pas
    | _ => cases h
  | .nil, W, N, sc, X, s, O, h => by cases s <;> cases h
  | .cons _ _, W, N, sc, X, s, O, h => by cases s <;> cases h
  | .augsub _ _ _ _, W, N, sc, X, s, O, h => by cases s <;> cases h
  | .augfld _ _ _ _, W, N, sc, X, s, O, h => by cases s <;> cases h
  | .hd _ _ _, W, N, sc, X, s, O, h => by cases s <;> cases h
termination_by structural x => x
theorem sSs : ∀ (st : Ev.S) {W : WX} {N : List Str} {sc : Scope} {X : Cx} {ts : List Stmt}, Oks G W n N sc X → chSs G N sc st ts = true → PSs X ts (tS G none W n st)
  | .nil, W, N, sc, X, ts, O, h => by
    cases ts with
    | nil => exact s_nil
    | cons _ _ => cases h
  | .cons a b, W, N, sc, X, ts, O, h => by
    cases ts with
    | nil => cases h
    | cons s r =>
      unfold chSs at h
      simp only [Bool.and_eq_true] at h
      exact s_cons (sS a O h.1) (sSs b O h.2)
  | .asg _ _, W, N, sc, X, ts, O, h => by cases h
  | .asub _ _ _, W, N, sc, X, ts, O, h => by cases h
  | .afld _ _ _, W, N, sc, X, ts, O, h => by cases h
  | .aug _ _ _, W, N, sc, X, ts, O, h => by cases h
  | .augsub _ _ _ _, W, N, sc, X, ts, O, h => by cases h
  | .augfld _ _ _ _, W, N, sc, X, ts, O, h => by cases h
  | .ex _, W, N, sc, X, ts, O, h => by cases h
  | .ret _, W, N, sc, X, ts, O, h => by cases h
  | .ret0, W, N, sc, X, ts, O, h => by cases h
  | .ifs _ _ _, W, N, sc, X, ts, O, h => by cases h
  | .for _ _ _, W, N, sc, X, ts, O, h => by cases h
  | .whl _ _, W, N, sc, X, ts, O, h => by cases h
  | .rai _ _, W, N, sc, X, ts, O, h => by cases h
  | .tri _ _, W, N, sc, X, ts, O, h => by cases h
  | .hd _ _ _, W, N, sc, X, ts, O, h => by cases h
  | .brk, W, N, sc, X, ts, O, h => by cases h
  | .cnt, W, N, sc, X, ts, O, h => by cases h
  | .pas, W, N, sc, X, ts, O, h => by cases h
termination_by structural x => x
end
end
end EvS
/-! EvZA: every def keeps its promise. -/
namespace EvS
open PySem PySem.Spec PyProof.Rows L2
open Ev (U AO AH DK)

/-- what a def's text says of it -/
structure Def1 (G : Sig) (K : PySem.W.Frag) (k : Nat) (d : Ev.Fn) : Prop where
  ex : ∃ (x qual : Str) (st : Stmt) (fd : FuncData) (N ps : List Str), Fun K x qual st (G.fa k) fd ∧ FnScope N ps (defScope st) ∧ ps.length = d.np ∧ N.length = d.nl ∧ chSs G N (defScope st) d.body (defBody st) = true ∧ Binds K fd ps []
/-- what the written part says of all that stands around the defs -/
structure Bas (G : Sig) (P : Program) (w : World) (K : PySem.W.Frag) (mg : Str → Option Value) (base : Heap) : Prop where
  hK : K = G.K
  df : ∀ k d, G.T k = some d → Def1 G K k d
  gf : ∀ x k, G.gf x = some k → ∃ d, G.T k = some d ∧ mg x = some (.ref (G.fa k)) ∧ PySem.W.keepIn K (.ref (G.fa k)) = true
  gc : ∀ x c, G.gc x = some c → mg x = some (.ref (G.ca c))
  gk : ∀ x k, G.gk x = some k → ∃ u v w, G.Γ.glb[k]? = some u ∧ mg x = some w ∧ RelV v w ∧ ∀ xa r H, RU G xa r H u v
  blt : ∀ x ∈ bnames, mg x = none
  ini : ∀ c f, G.Γ.ini c = some f → (∃ d, G.T f = some d) ∧ Mk K (G.ca c) (G.fa f) ∧ PySem.W.keepIn K (.ref (G.ca c)) = true
  mt : ∀ c m f, G.Γ.mt c m = some f → (∃ d, G.T f = some d) ∧ Cls K (G.ca c) ∧ ∀ y, G.an[m]? = some y → Meth K (G.ca c) y (G.fa f)
  fl : ∀ c f, G.Γ.fl c f = true → Cls K (G.ca c) ∧ ∀ y, G.an[f]? = some y → NoAttr K (G.ca c) y
  an : G.an.Nodup
  isi : IsiG G
  kd : ∀ k j, keyD (G.T k) j = true → KTxt K (G.fa k) j
  xo : ∀ c, G.Γ.xf c ≠ [] → XOk G K c ∧ (G.Γ.xf c).length ≤ 2
  xk : ∀ c, G.Γ.xf c ≠ [] → ∃ (fI : Addr) (fdv : FuncData) (ps : List Str), PySem.W.findIn K (.ref (G.ca c)) "__init__" = some (some (.ref fI)) ∧ PySem.W.typeIn K (.ref fI) = some (.type "function") ∧
    (∀ k, FnOk P w K mg base (L2.CX P w) (k + 1) fI fdv ps (spX G c)) ∧ Binds K fdv ps []
  hk : ∀ c k, G.Γ.xf c ≠ [] → G.hx k = true → PySem.W.exmOne K (.ref (G.ca c)) (.ref (G.ca k)) = some (G.Γ.sub c k)
section
variable {G : Sig} {P : Program} {w : World} {K : PySem.W.Frag} {mg : Str → Option Value} {base : Heap}
def FnAll (G : Sig) (P : Program) (w : World) (K : PySem.W.Frag) (mg : Str → Option Value) (base : Heap) (n : Nat) : Prop :=
  ∀ k d, G.T k = some d → ∃ fdv ps, FnOk P w K mg base (L2.CX P w) (lv n) (G.fa k) fdv ps (spF G n k) ∧ Binds K fdv ps []
theorem ren_start {r : List Addr} {H : Hp} {us : List U} {vs : List V} {N : List Str} {m : Nat} (k : RUs G none r H us vs) (hN : N.length = m) : REn G none r H (Ev.start m us) (L2.start N vs) := by
  have hl := k.len
  refine ⟨?_, fun i u h => ?_⟩
  · unfold Ev.start L2.start
    simp [hl, hN]
  · unfold Ev.start at h
    by_cases hi : i < us.length
    · rw [List.getElem?_append_left (by simpa using hi), List.getElem?_map] at h
      obtain ⟨u', e1, e2⟩ := Option.map_eq_some_iff.mp h
      cases e2
      obtain ⟨v, e3, e4⟩ := k.get e1
      refine ⟨v, ?_, e4⟩
      unfold L2.start
      rw [List.getElem?_append_left (by simp; rw [← hl]; exact hi), List.getElem?_map, e3]
      rfl
    · rw [List.getElem?_append_right (by simpa using hi), List.getElem?_replicate] at h
      split at h <;> cases h
theorem fn_one (B : Bas G P w K mg base) {n : Nat} (ih : FnAll G P w K mg base n) {k : Nat} {d : Ev.Fn} (hd : G.T k = some d) {x qual : Str} {st : Stmt} {fd : FuncData} {N ps : List Str} (F : Fun K x qual st (G.fa k) fd) (S : FnScope N ps (defScope st)) (hp : ps.length = d.np) (hN : N.length = d.nl)
    (hc : chSs G N (defScope st) d.body (defBody st) = true) : FnOk P w K mg base (L2.CX P w) (lv (n + 1)) (G.fa k) fd ps (spF G (n + 1) k) := by
  refine F.okX (k := lv n + 1) S (fun vs H Q E h => ?_) fun cdv A outer s H vs Q E hr h => ?_
  · obtain ⟨d', h1, h2, _⟩ := h
    rw [hd] at h1
    cases h1
    rw [h2, hp]
  · obtain ⟨d', h1, h2, r, hh, us, R, k1, p⟩ := h
    rw [hd] at h1
    cases h1
    refine ⟨tS G none (fun cls d _ H => E cls d H) n d.body, sSs d.body (G := G) (N := N) (sc := defScope st) ⟨⟨⟨B.hK, ih, B.gf, B.gc, B.gk, B.blt, B.ini, B.mt, B.fl, B.an, B.isi, B.kd⟩, rfl, S.nd, rfl, hr.units, fun _ => ⟨rfl, hr, takes_of rfl rfl rfl rfl, rfl⟩, fun e te y pos hs he => xf_none e te y pos hs he⟩, ⟨B.xo, fun c h => ?_, B.hk⟩, passes_of rfl, rfl, rfl, fun _ => rfl⟩ hc, ?_⟩
    · obtain ⟨fI, fdv, ps, a1, a2, a3, a4⟩ := B.xk c h
      exact ⟨fI, fdv, ps, a1, a2, a3 (2 * n + 3), a4⟩
    · refine ⟨r, Ev.start d.nl us, hh, R, ren_start k1 hN, ?_⟩
      unfold Ev.callF at p
      rw [hd] at p
      dsimp only at p
      split at p
      · cases z : Ev.evS G.Γ (Ev.callF G.Γ G.T n) d.body (Ev.start d.nl us) hh with
        | nx e1 h1 =>
          rw [z] at p
          exact fun r1 H1 s1 X1 R1 E1 => p r1 H1 .non X1 R1 rfl
        | rt u h1 =>
          rw [z] at p
          exact fun r1 H1 v X1 R1 k2 => p r1 H1 v X1 R1 k2
        | exc c xs e1 h1 =>
          rw [z] at p
          exact fun r1 H1 s1 cls dd X1 R1 E1 x => p r1 H1 cls dd X1 R1 x
        | bk e1 h1 => rw [z] at p; exact p.elim
        | ct e1 h1 => rw [z] at p; exact p.elim
        | bad => rw [z] at p; exact p.elim
      · exact p.elim
theorem fn_all (B : Bas G P w K mg base) : ∀ n, FnAll G P w K mg base n
  | 0 => fun k d hd => by
    obtain ⟨x, qual, st, fd, N, ps, F, S, hp, hN, hc, hb⟩ := (B.df k d hd).ex
    have no : ∀ vs H Q E, ¬ spF G 0 k vs H Q E := fun vs H Q E h => by
      obtain ⟨d', _, _, r, hh, us, _, _, p⟩ := h
      exact p
    exact ⟨fd, ps, ⟨fun vs H Q E h => absurd h (no vs H Q E), fun A outer s H args us vs Q E _ _ _ _ h => absurd h (no vs H Q E)⟩, hb⟩
  | n + 1 => fun k d hd => by
    obtain ⟨x, qual, st, fd, N, ps, F, S, hp, hN, hc, hb⟩ := (B.df k d hd).ex
    exact ⟨fd, ps, fn_one B (fn_all B n) hd F S hp hN hc, hb⟩
end
end EvS
/-! EvHd: what the written part says, by one look; the law's call. -/
namespace EvS
open PySem PySem.Spec PyProof.Rows L2 He
open Ev (U AO AH DK)
/-! ### constants -/
mutual
def relUB (K : PySem.W.Frag) : U → Value → Bool
  | .non, w => (match w with | .none => true | _ => false)
  | .bl b, w => (match w with | .bool c => b == c | _ => false)
  | .int i, w => (match w with | .int j _ => decide (i = j) | _ => false)
  | .str s, w => (match w with | .str y _ => decide (y = mkS s) | _ => false)
  | .tup xs, w => (match w with
    | .ref a => (match K.lookup a with
      | some ⟨.type t, _, .seq its _, _⟩ => t == "tuple" && (decide (its.size ≤ sizeLine) && relUsB K xs its.toList)
      | _ => false)
    | _ => false)
  | _, _ => false
termination_by structural x => x
def relUsB (K : PySem.W.Frag) : List U → List Value → Bool
  | [], ws => (match ws with | [] => true | _ => false)
  | u :: us, ws => (match ws with
    | w :: r => relUB K u w && relUsB K us r
    | [] => false)
termination_by structural x => x
end
theorem ba2 {a b : Bool} (h : (a && b) = true) : a = true ∧ b = true := Bool.and_eq_true_iff.mp h
mutual
theorem relUB_ok {G : Sig} : ∀ {u : U} {w : Value}, relUB G.K u w = true → ∃ v, RelV v w ∧ ∀ xa r H, RU G xa r H u v
  | .non, w, h => by
    unfold relUB at h; split at h
    · exact ⟨.non, rfl, fun _ _ _ => by unfold RU; rfl⟩
    · cases h
  | .bl b, w, h => by
    unfold relUB at h; split at h
    · rename_i c
      have e : b = c := eq_of_beq h
      exact ⟨.bl b, by rw [e]; rfl, fun _ _ _ => by unfold RU; rfl⟩
    · cases h
  | .int i, w, h => by
    unfold relUB at h; split at h
    · have e := of_decide_eq_true h
      exact ⟨.int i, ⟨_, by rw [e]⟩, fun _ _ _ => by unfold RU; rfl⟩
    · cases h
  | .str s, w, h => by
    unfold relUB at h; split at h
    · have e := of_decide_eq_true h
      exact ⟨.str (mkS s), ⟨_, by rw [e]⟩, fun _ _ _ => by unfold RU; rfl⟩
    · cases h
  | .tup xs, w, h => by
    unfold relUB at h; split at h
    · rename_i a
      split at h
      · rename_i t od its nn sl hk
        obtain ⟨h1, h⟩ := ba2 h
        obtain ⟨h2, h3⟩ := ba2 h
        obtain ⟨vs, e1, e2⟩ := relUsB_ok h3
        have et : t = "tuple" := eq_of_beq h1
        subst et
        refine ⟨.ref a, rfl, fun _ _ _ => ?_⟩
        unfold RU
        exact ⟨a, vs, rfl, .inr ⟨_, its, nn, hk, rfl, rfl, of_decide_eq_true h2, e1⟩, e2 _ _ _⟩
      · cases h
    · cases h
  | .ref _, w, h => by unfold relUB at h; cases h
  | .exc _ _, w, h => by unfold relUB at h; cases h
  | .fn _, w, h => by unfold relUB at h; cases h
theorem relUsB_ok {G : Sig} : ∀ {us : List U} {ws : List Value}, relUsB G.K us ws = true → ∃ vs, Vals vs ws ∧ ∀ xa r H, RUs G xa r H us vs
  | [], ws, h => by
    unfold relUsB at h; split at h
    · exact ⟨[], .nil, fun _ _ _ => by unfold RUs; rfl⟩
    · cases h
  | u :: us, ws, h => by
    unfold relUsB at h; split at h
    · obtain ⟨h1, h2⟩ := ba2 h
      obtain ⟨v, e1, e2⟩ := relUB_ok h1
      obtain ⟨vs, e3, e4⟩ := relUsB_ok h2
      exact ⟨v :: vs, .cons e1 e3, fun _ _ _ => by unfold RUs; exact ⟨v, vs, rfl, e2 _ _ _, e4 _ _ _⟩⟩
    · cases h
end
/-! ### one look at the written part -/
section
variable (G : Sig)
def gfB (l : List (Str × Nat)) : Bool := l.all fun p => eqO (PySem.W.nsIn G.K mainGlobals p.1) (some (some (.ref (G.fa p.2)))) && PySem.W.keepIn G.K (.ref (G.fa p.2))
def gcB (l : List (Str × Nat)) : Bool := l.all fun p => eqO (PySem.W.nsIn G.K mainGlobals p.1) (some (some (.ref (G.ca p.2))))
def gkB (l : List (Str × Nat)) : Bool := l.all fun p => match G.Γ.glb[p.2]?, PySem.W.nsIn G.K mainGlobals p.1 with
  | some u, some (some w) => relUB G.K u w
  | _, _ => false
def bltB : Bool := bnames.all fun x => eqO (PySem.W.nsIn G.K mainGlobals x) (some none)
def clsB (C : Addr) : Bool := PySem.W.plainGet G.K C Str.empty && (PySem.W.hasDictIn G.K C && (PySem.W.plainOver G.K C && eqO (PySem.W.findIn G.K (.ref C) "__setattr__") (some (some (.builtin "object.__setattr__")))))
def iniB (l : List (Nat × Nat)) : Bool := l.all fun p => PySem.W.makesIn G.K (G.ca p.1) && (eqO (PySem.W.findIn G.K (.ref (G.ca p.1)) "__init__") (some (some (.ref (G.fa p.2)))) && (PySem.W.isFn G.K (.ref (G.fa p.2)) && PySem.W.keepIn G.K (.ref (G.ca p.1))))
def mtB (l : List (Nat × Nat × Nat)) : Bool := l.all fun p => clsB G (G.ca p.1) && (match G.an[p.2.1]? with
  | some y => eqO (PySem.W.findIn G.K (.ref (G.ca p.1)) y) (some (some (.ref (G.fa p.2.2)))) && (PySem.W.isFn G.K (.ref (G.fa p.2.2)) && PySem.W.keepIn G.K (.ref (G.fa p.2.2)))
  | none => true)
def flB (l : List (Nat × Nat)) : Bool := l.all fun p => clsB G (G.ca p.1) && (match G.an[p.2]? with
  | some y => eqO (PySem.W.findIn G.K (.ref (G.ca p.1)) y) (some none)
  | none => true)
def isiB (l : List (Nat × Nat)) : Bool := (l.all fun p => clsB G (G.ca p.1) && (eqO (PySem.W.findIn G.K (.ref (G.ca p.1)) "__class__") (some (some (.builtin "object.__class__"))) && (decide (PySem.W.mroIn G.K (G.ca p.1) (.type "object") = some true) &&
    decide (PySem.W.kitOne G.K (.ref (G.ca p.1)) (.ref (G.ca p.2)) = some true)))) &&
  (eqO (PySem.W.specialIn G.K (.builtin "object.__class__") "__get__") (some (some (.builtin "getset_descriptor.__get__"))) && decide (PySem.W.takesIn G.K (.builtin "object.__class__") = some true))
/-- an own exception's class object -/
def oexB (C : Addr) : Bool := (match G.K.lookup C with
  | some ⟨.type t, _, .cls cd, sl⟩ => t == "type" && (match cd.mro with
    | .ref C' :: bm => C' == C && PySem.HandSPX.refsVE bm
    | _ => false) && cd.hasDict && !cd.hasDel && (match sl.toList with
    | [_, _, _, _, some (.builtin n), _] => n == "ValueError.__new__"
    | _ => false)
  | _ => false) && (eqO (PySem.W.findIn G.K (.ref C) "__setattr__") (some (some (.builtin "object.__setattr__"))) && (decide (PySem.W.subIn G.K (.ref C) (.type "BaseException") = some true) && (decide (PySem.W.typeIn G.K (.ref C) = some (.type "type")) && PySem.W.keepIn G.K (.ref C))))
/-- the base class without an init of its own -/
def ownB (K : PySem.W.Frag) (C : Addr) : Bool := PySem.W.readsIn K C (.type "type") && ((match PySem.W.findCls K (.ref C) (.type "type") "__init__" with
  | some (.val (.builtin n)) => n == "ValueError.__init__"
  | _ => false) && eqO (PySem.W.specialIn K (.ref C) "__getattribute__") (some (some (.builtin "type.__getattribute__"))))
def xoB (l : List (Nat × List Nat)) : Bool := l.all fun p => oexB G (G.ca p.1) && (xfB G.K (G.ca p.1) && (p.2.all fun f => match G.an[f]? with
  | some y => eqO (PySem.W.findIn G.K (.ref (G.ca p.1)) y) (some none)
  | none => true))
def hkB (l : List Nat) (m : List Nat) : Bool := l.all fun c => m.all fun k => decide (PySem.W.exmOne G.K (.ref (G.ca c)) (.ref (G.ca k)) = some (G.Γ.sub c k))
def xkB (l : List (Nat × Addr)) : Bool := l.all fun p => eqO (PySem.W.findIn G.K (.ref (G.ca p.1)) "__init__") (some (some (.ref p.2))) && decide (PySem.W.typeIn G.K (.ref p.2) = some (.type "function"))
def noLst : Bool := G.K.all fun p => match p.2.cls with
  | .type t => t != "list"
  | _ => true
theorem oexB_ok {C : Addr} (h : oexB G C = true) : OexC G.K C := by
  unfold oexB at h
  obtain ⟨h1, h⟩ := ba2 h
  obtain ⟨h2, h⟩ := ba2 h
  obtain ⟨h3, h⟩ := ba2 h
  obtain ⟨h4, h5⟩ := ba2 h
  refine ⟨?_, eqO_ok h2, of_decide_eq_true h3, of_decide_eq_true h4, h5⟩
  cases q : G.K.lookup C with
  | none => rw [q] at h1; cases h1
  | some o =>
    obtain ⟨oc, od, dt, sl⟩ := o
    rw [q] at h1
    cases oc with
    | type t =>
      cases dt with
      | cls cd =>
        obtain ⟨h1, g5⟩ := ba2 h1
        obtain ⟨h1, g4⟩ := ba2 h1
        obtain ⟨h1, g3⟩ := ba2 h1
        obtain ⟨g1, g2⟩ := ba2 h1
        have et : t = "type" := eq_of_beq g1
        obtain ⟨nm, bs, mro, ns, qn, hd, sn, sub, ab, col, del⟩ := cd
        dsimp only at g2 g3 g4
        subst et
        have e3 : hd = true := g3
        have e4 : del = false := by simpa using g4
        subst e3 e4
        match mro, g2 with
        | .ref C' :: bm, g2 =>
          obtain ⟨g6, g7⟩ := ba2 g2
          have e6 : C' = C := eq_of_beq g6
          subst e6
          obtain ⟨l⟩ := sl
          match l, g5 with
          | [k0, k1, k2, k3, some (.builtin n), k5], g5 =>
            have e7 : n = "ValueError.__new__" := eq_of_beq g5
            subst e7
            exact ⟨nm, qn, ns, bs, bm, sn, sub, ab, col, od, k0, k1, k2, k3, k5, rfl, g7⟩
      | _ => cases h1
    | _ => cases h1
theorem ownB_ok {K : PySem.W.Frag} {C : Addr} (h : ownB K C = true) : OwnI K C := by
  unfold ownB at h
  obtain ⟨h1, h⟩ := ba2 h
  obtain ⟨h2, h3⟩ := ba2 h
  refine ⟨h1, ?_, eqO_ok h3⟩
  split at h2
  · rename_i n q
    have e : n = "ValueError.__init__" := eq_of_beq h2
    rw [q, e]
  · cases h2
theorem clsB_ok {C : Addr} (h : clsB G C = true) : Cls G.K C := by
  unfold clsB at h
  obtain ⟨h1, h⟩ := ba2 h
  obtain ⟨h2, h⟩ := ba2 h
  obtain ⟨h3, h4⟩ := ba2 h
  exact ⟨h1, h2, h3, eqO_ok h4⟩
theorem lk_mem {α β : Type} [BEq α] [LawfulBEq α] {x : α} {k : β} : ∀ {l : List (α × β)}, l.lookup x = some k → (x, k) ∈ l
  | [], h => by cases h
  | (a, b) :: r, h => by
    unfold List.lookup at h
    cases q : x == a with
    | true =>
      rw [q] at h
      cases h
      rw [eq_of_beq q]; exact List.mem_cons_self
    | false =>
      rw [q] at h
      exact List.mem_cons_of_mem _ (lk_mem h)
theorem all_at {α : Type} {p : α → Bool} {l : List α} {x : α} (h : l.all p = true) (m : x ∈ l) : p x = true := List.all_eq_true.mp h x m
/-- one def of the text, by the written part -/
theorem fun_he {K : PySem.W.Frag} {p : Str × Option Str} {x qual : Str} {st : Stmt} (e : fnObs K p = some (x, qual, defArgs st, .stmts (defBody st), defScope st, mainGlobals, [], .none, builtinsNs))
    (c : (Fa.code p qual).ok K = true) (k : PySem.W.keepIn K (.ref (fAd K p)) = true) : ∃ fd, Fun K x qual st (fAd K p) fd := by
  obtain ⟨oc, od, osl, kV, doc, pm, an, cdv, ct, l, cc⟩ := fn_ok (d := ⟨p, x, qual, defArgs st, defBody st, defScope st⟩) e c
  exact ⟨_, fun_mk l cc k⟩
end
/-- the tables, as lists -/
structure Tabs where
  gf : List (Str × Nat)
  gc : List (Str × Nat)
  gk : List (Str × Nat)
  ini : List (Nat × Nat)
  mt : List (Nat × Nat × Nat)
  fl : List (Nat × Nat)
  isi : List (Nat × Nat)
  xo : List (Nat × List Nat)
  hx : List Nat
def basB (G : Sig) (L : Tabs) (xk : List (Nat × Addr)) : Bool := gfB G L.gf && (gcB G L.gc && (gkB G L.gk && (bltB G && (iniB G L.ini && (mtB G L.mt && (flB G L.fl && (isiB G L.isi && (xoB G L.xo && (hkB G (L.xo.map (·.1)) L.hx && (xkB G xk && noLst G))))))))))
/-- the tables and the functions agree -/
structure Tab2 (G : Sig) (L : Tabs) : Prop where
  gf : G.gf = fun x => L.gf.lookup x
  gc : G.gc = fun x => L.gc.lookup x
  gk : G.gk = fun x => L.gk.lookup x
  ini : ∀ c f, G.Γ.ini c = some f → (c, f) ∈ L.ini ∧ ∃ d, G.T f = some d
  mt : ∀ c m f, G.Γ.mt c m = some f → (c, m, f) ∈ L.mt ∧ ∃ d, G.T f = some d
  fl : ∀ c f, G.Γ.fl c f = true → (c, f) ∈ L.fl
  isi : ∀ c d b, G.Γ.isb c d = some b → b = true ∧ (c, d) ∈ L.isi
  xo : ∀ c, G.Γ.xf c ≠ [] → (c, G.Γ.xf c) ∈ L.xo ∧ (G.Γ.xf c).length ≤ 2
  hx : ∀ k, G.hx k = true → k ∈ L.hx
  fns : ∀ x k, (x, k) ∈ L.gf → ∃ d, G.T k = some d
  an : G.an.Nodup
section
variable {G : Sig} {P : Program} {w : World} {mg : Str → Option Value} {base h : Heap} {L : Tabs} {xk : List (Nat × Addr)}
theorem bas_ok (X : G.K.In h) (N : h.Ns mainGlobals mg) (b : basB G L xk = true) (T : Tab2 G L) (df : ∀ k d, G.T k = some d → Def1 G G.K k d) (kd : ∀ k j, keyD (G.T k) j = true → KTxt G.K (G.fa k) j)
    (xi : (∀ c, G.Γ.xf c ≠ [] → XOk G G.K c) → ∀ c, G.Γ.xf c ≠ [] → ∃ (fI : Addr) (fdv : FuncData) (ps : List Str), (c, fI) ∈ xk ∧ (∀ k, FnOk P w G.K mg base (L2.CX P w) (k + 1) fI fdv ps (spX G c)) ∧ Binds G.K fdv ps []) : Bas G P w G.K mg base := by
  unfold basB at b
  obtain ⟨b1, b⟩ := ba2 b
  obtain ⟨b2, b⟩ := ba2 b
  obtain ⟨b3, b⟩ := ba2 b
  obtain ⟨b4, b⟩ := ba2 b
  obtain ⟨b5, b⟩ := ba2 b
  obtain ⟨b6, b⟩ := ba2 b
  obtain ⟨b7, b⟩ := ba2 b
  obtain ⟨b8, b⟩ := ba2 b
  obtain ⟨b9, b⟩ := ba2 b
  obtain ⟨b10, b⟩ := ba2 b
  obtain ⟨b11, b12⟩ := ba2 b
  unfold gfB at b1
  unfold gcB at b2
  unfold gkB at b3
  unfold bltB at b4
  unfold iniB at b5
  unfold mtB at b6
  unfold flB at b7
  unfold isiB at b8
  unfold xoB at b9
  unfold hkB at b10
  unfold xkB at b11
  have xo : ∀ c, G.Γ.xf c ≠ [] → XOk G G.K c := fun c hc => by
    have m := (T.xo c hc).1
    have z := all_at b9 m
    obtain ⟨h1, h2⟩ := ba2 z
    obtain ⟨h2, h3⟩ := ba2 h2
    refine ⟨oexB_ok G h1, fun f hf y hy => ?_, xfB_ok h2⟩
    have := all_at h3 hf
    rw [hy] at this
    exact eqO_ok this
  refine ⟨rfl, df, ?_, ?_, ?_, ?_, ?_, ?_, ?_, T.an, ?_, kd, fun c hc => ⟨xo c hc, (T.xo c hc).2⟩, ?_, ?_⟩
  · intro x k e
    rw [T.gf] at e
    have m := lk_mem e
    have z := all_at b1 m
    obtain ⟨h1, h2⟩ := ba2 z
    obtain ⟨d, hd⟩ := T.fns x k m
    exact ⟨d, hd, PySem.W.mg_of X N (eqO_ok h1), h2⟩
  · intro x k e
    rw [T.gc] at e
    have z := all_at b2 (lk_mem e)
    exact PySem.W.mg_of X N (eqO_ok z)
  · intro x k e
    rw [T.gk] at e
    have := all_at b3 (lk_mem e)
    dsimp only at this
    split at this
    · rename_i u w e1 e2
      obtain ⟨v, r1, r2⟩ := relUB_ok this
      exact ⟨u, v, w, e1, PySem.W.mg_of X N e2, r1, r2⟩
    · cases this
  · intro x hx
    have z := all_at b4 hx
    exact PySem.W.mg_none_of X N (eqO_ok z)
  · intro c f e
    obtain ⟨m, hd⟩ := T.ini c f e
    have z := all_at b5 m
    obtain ⟨h1, h⟩ := ba2 z
    obtain ⟨h2, h⟩ := ba2 h
    obtain ⟨h3, h4⟩ := ba2 h
    exact ⟨hd, ⟨h1, eqO_ok h2, h3, h4⟩, h4⟩
  · intro c m f e
    obtain ⟨mm, hd⟩ := T.mt c m f e
    have z := all_at b6 mm
    obtain ⟨h1, h⟩ := ba2 z
    refine ⟨hd, clsB_ok G h1, fun y hy => ?_⟩
    dsimp only at h
    rw [hy] at h
    obtain ⟨h2, h⟩ := ba2 h
    obtain ⟨h3, h4⟩ := ba2 h
    exact ⟨eqO_ok h2, h3, h4⟩
  · intro c f e
    have z := all_at b7 (T.fl c f e)
    obtain ⟨h1, h⟩ := ba2 z
    refine ⟨clsB_ok G h1, fun y hy => ?_⟩
    dsimp only at h
    rw [hy] at h
    exact eqO_ok h
  · obtain ⟨i1, i⟩ := ba2 b8
    obtain ⟨i2, i3⟩ := ba2 i
    refine ⟨fun c d b e => ?_, eqO_ok i2, of_decide_eq_true i3⟩
    obtain ⟨rfl, m⟩ := T.isi c d b e
    have z := all_at i1 m
    obtain ⟨h1, h⟩ := ba2 z
    obtain ⟨h2, h⟩ := ba2 h
    obtain ⟨h3, h4⟩ := ba2 h
    exact ⟨clsB_ok G h1, eqO_ok h2, of_decide_eq_true h3, of_decide_eq_true h4⟩
  · intro c hc
    obtain ⟨fI, fdv, ps, m, h1, h2⟩ := xi xo c hc
    have z := all_at b11 m
    obtain ⟨g1, g2⟩ := ba2 z
    exact ⟨fI, fdv, ps, eqO_ok g1, of_decide_eq_true g2, h1, h2⟩
  · intro c k hc hk
    have z := all_at b10 (List.mem_map.mpr ⟨_, (T.xo c hc).1, rfl⟩)
    have z2 := all_at z (T.hx k hk)
    exact of_decide_eq_true z2
theorem bas_nolst (b : basB G L xk = true) : noLst G = true := by
  unfold basB at b
  simp only [Bool.and_eq_true] at b
  exact b.2.2.2.2.2.2.2.2.2.2.2
theorem rus_ints {r : List Addr} {H : Hp} : ∀ ns : List Int, RUs G none r H (ns.map U.int) (ns.map V.int)
  | [] => by unfold RUs; rfl
  | i :: ns => by
    rw [List.map_cons, List.map_cons]
    unfold RUs
    exact ⟨.int i, ns.map V.int, rfl, by unfold RU; rfl, rus_ints ns⟩
/-- the law's call, by the reading -/
theorem law_sp {n k : Nat} {d : Ev.Fn} (hn : noLst G = true) (hd : G.T k = some d) (h1 : d.np = 1) (ev : ∀ ns : List Int, ns.length ≤ 63 → ∃ h', Ev.callF G.Γ G.T n k [.ref 0] [.frz (.lst (ns.map U.int))] = .ok (.bl true) h')
    (H : Hp) (a : Addr) (ns : List Int) (hl : ns.length ≤ 63) (O : Only H) (S : SqL G.K H a (ns.map V.int)) : spF G n k [.ref a] H (fun v _ => v = .bl true) fun _ _ _ => False := by
  have hF : ∃ o, H a = some (.frz o (.lst (ns.map V.int))) := by
    rcases S with S | ⟨o, its, m, e1, e2, _⟩
    · rcases S with S | ⟨ob, S⟩
      · rcases O a with z | ⟨o, xs, z⟩
        · rw [S] at z; cases z
        · rw [S] at z; cases z
      · exact ⟨ob, S⟩
    · unfold noLst at hn
      have := all_at hn (lk_mem e1)
      dsimp only at this
      rw [e2] at this
      cases this
  obtain ⟨o, hF⟩ := hF
  obtain ⟨h', ev⟩ := ev ns hl
  refine ⟨d, hd, h1.symm, [a], [.frz (.lst (ns.map U.int))], [.ref 0], ⟨rfl, by simp, fun n o' b e1 e2 => ?_⟩, ?_, ?_⟩
  · match n, e1, e2 with
    | 0, e1, e2 =>
      cases e1; cases e2
      refine ⟨_, hF, ?_⟩
      unfold RO
      refine ⟨o, _, rfl, ?_⟩
      unfold RO
      refine ⟨_, rfl, ?_⟩
      exact rus_ints ns
    | n + 1, e1, _ => simp at e1
  · unfold RUs
    exact ⟨.ref a, [], rfl, by unfold RU; exact ⟨a, rfl, rfl⟩, by unfold RUs; rfl⟩
  · rw [ev]
    intro r1 H1 v X1 R1 k2
    change RU G none r1 H1 (.bl true) v at k2
    unfold RU at k2
    exact k2
end
end EvS
/-! PL: what a run of the plain reading ends with, by rules. No program in sight. -/
namespace Ev
/-- the types below keep simp out of what comes later: it looks at the head alone -/
abbrev Rx {α : Type} (_Q : α → AH → Prop) (_X : Nat → List U → AH → Prop) : Type := R α
inductive Lz {α : Type} (Q : α → AH → Prop) (X : Nat → List U → AH → Prop) : Rx Q X → Prop
  | ok {a h} : Q a h → Lz Q X (.ok a h)
  | exc {c xs h} : X c xs h → Lz Q X (.exc c xs h)
abbrev Post {α : Type} (r : R α) (Q : α → AH → Prop) (X : Nat → List U → AH → Prop) : Prop := Lz Q X r
@[simp] theorem Post.ok {α : Type} {a : α} {h : AH} {Q X} : Post (.ok a h) Q X = Q a h := propext ⟨fun k => by cases k; assumption, Lz.ok⟩
@[simp] theorem Post.exc {α : Type} {c xs} {h : AH} {Q : α → AH → Prop} {X} : Post (.exc c xs h) Q X = X c xs h := propext ⟨fun k => by cases k; assumption, Lz.exc⟩
@[simp] theorem Post.bad {α : Type} {Q : α → AH → Prop} {X} : Post (.bad) Q X = False := propext ⟨fun k => (nomatch k), False.elim⟩
@[simp] theorem Post.bind {α β : Type} {r : R α} {f : α → AH → R β} {Q X} : Post (r.bind f) Q X = Post r (fun a h => Post (f a h) Q X) X := by
  cases r <;> simp only [R.bind, Post.ok, Post.exc, Post.bad]
@[simp] theorem Post.ofO {α : Type} {o : Option α} {h : AH} {Q : α → AH → Prop} {X} : Post (ofO o h) Q X = ∃ a, o = some a ∧ Q a h := by
  cases o <;> simp [Ev.ofO]
theorem Post.mono {α : Type} {r : R α} {Q Q' : α → AH → Prop} {X X'} (p : Post r Q X) (q : ∀ a h, Q a h → Q' a h) (x : ∀ c xs h, X c xs h → X' c xs h) : Post r Q' X' := by
  cases r <;> simp_all
theorem Post.ite {α : Type} {c : Prop} [Decidable c] {r s : R α} {Q X} : Post (if c then r else s) Q X = if c then Post r Q X else Post s Q X := by
  split <;> rfl
/-- no exception -/
abbrev nox : Nat → List U → AH → Prop := fun _ _ _ => False

abbrev Fx (_nx : Env → AH → Prop) (_rt : U → AH → Prop) (_xc : Nat → List U → Env → AH → Prop) (_bk _ct : Env → AH → Prop) : Type := F
inductive LzF (nx : Env → AH → Prop) (rt : U → AH → Prop) (xc : Nat → List U → Env → AH → Prop) (bk ct : Env → AH → Prop) : Fx nx rt xc bk ct → Prop
  | nx {e h} : nx e h → LzF nx rt xc bk ct (.nx e h)
  | rt {u h} : rt u h → LzF nx rt xc bk ct (.rt u h)
  | exc {c xs e h} : xc c xs e h → LzF nx rt xc bk ct (.exc c xs e h)
  | bk {e h} : bk e h → LzF nx rt xc bk ct (.bk e h)
  | ct {e h} : ct e h → LzF nx rt xc bk ct (.ct e h)
abbrev F.post (r : F) (nx : Env → AH → Prop) (rt : U → AH → Prop) (xc : Nat → List U → Env → AH → Prop) (bk ct : Env → AH → Prop) : Prop := LzF nx rt xc bk ct r
section
variable {nx : Env → AH → Prop} {rt : U → AH → Prop} {xc : Nat → List U → Env → AH → Prop} {bk ct : Env → AH → Prop}
@[simp] theorem F.post_nx {e h} : F.post (.nx e h) nx rt xc bk ct = nx e h := propext ⟨fun k => by cases k; assumption, LzF.nx⟩
@[simp] theorem F.post_rt {u h} : F.post (.rt u h) nx rt xc bk ct = rt u h := propext ⟨fun k => by cases k; assumption, LzF.rt⟩
@[simp] theorem F.post_exc {c xs e h} : F.post (.exc c xs e h) nx rt xc bk ct = xc c xs e h := propext ⟨fun k => by cases k; assumption, LzF.exc⟩
@[simp] theorem F.post_bk {e h} : F.post (.bk e h) nx rt xc bk ct = bk e h := propext ⟨fun k => by cases k; assumption, LzF.bk⟩
@[simp] theorem F.post_ct {e h} : F.post (.ct e h) nx rt xc bk ct = ct e h := propext ⟨fun k => by cases k; assumption, LzF.ct⟩
@[simp] theorem F.post_bad : F.post (.bad) nx rt xc bk ct = False := propext ⟨fun k => (nomatch k), False.elim⟩
@[simp] theorem F.post_seq {r f} : F.post (F.seq r f) nx rt xc bk ct = F.post r (fun e h => F.post (f e h) nx rt xc bk ct) rt xc bk ct := by
  cases r <;> simp only [F.seq, F.post_nx, F.post_rt, F.post_exc, F.post_bk, F.post_ct, F.post_bad]
@[simp] theorem F.post_ofR {α : Type} {r : R α} {e f} : F.post (F.ofR r e f) nx rt xc bk ct = Post r (fun a h => F.post (f a h) nx rt xc bk ct) (fun c xs h => xc c xs e h) := by
  cases r <;> simp only [F.ofR, Post.ok, Post.exc, Post.bad, F.post_exc, F.post_bad]
@[simp] theorem F.post_out {r : F} {Q X} : Post (F.out r) Q X = F.post r (fun _ h => Q .non h) Q (fun c xs _ h => X c xs h) (fun _ _ => False) (fun _ _ => False) := by
  cases r <;> simp only [F.out, Post.ok, Post.exc, Post.bad, F.post_nx, F.post_rt, F.post_exc, F.post_bk, F.post_ct, F.post_bad]
theorem F.post_ite {c : Prop} [Decidable c] {r s : F} : F.post (if c then r else s) nx rt xc bk ct = if c then F.post r nx rt xc bk ct else F.post s nx rt xc bk ct := by
  split <;> rfl
theorem F.post.mono {r : F} {nx' rt' xc' bk' ct'} (p : F.post r nx rt xc bk ct) (a : ∀ e h, nx e h → nx' e h) (b : ∀ u h, rt u h → rt' u h) (c : ∀ k xs e h, xc k xs e h → xc' k xs e h) (d : ∀ e h, bk e h → bk' e h) (f : ∀ e h, ct e h → ct' e h) : F.post r nx' rt' xc' bk' ct' := by
  cases r <;> simp_all
@[simp] theorem Post.truR {r : R U} {Q X} : Post (truR r) Q X = Post r (fun u h => ∃ k, tru h u = some k ∧ Q k h) X := by
  cases r <;> simp [Ev.truR]
/-- a for's turns -/
theorem forL_post {g : AH → Bool} {body : U → Env → AH → F} {us : List U} {e h} (I : List U → Env → AH → Prop) (h0 : I [] e h)
    (st : ∀ pre u rest e h, us = pre ++ u :: rest → I pre e h → g h = true ∧ F.post (body u e h) (I (pre ++ [u])) rt xc nx (I (pre ++ [u])))
    (en : ∀ e h, I us e h → g h = true ∧ nx e h) : F.post (forL g body us e h) nx rt xc bk ct := by
  suffices H : ∀ (rest pre : List U) e h, us = pre ++ rest → I pre e h → F.post (forL g body rest e h) nx rt xc bk ct from H us [] e h rfl h0
  intro rest
  induction rest with
  | nil => intro pre e h eq k; obtain ⟨a, b⟩ := en e h (by rw [eq, List.append_nil]; exact k); simp [forL, a, b]
  | cons u rest ih =>
    intro pre e h eq k
    obtain ⟨a, b⟩ := st pre u rest e h eq k
    simp only [forL, a, if_true]
    cases z : body u e h with
    | nx e1 h1 => rw [z, F.post_nx] at b; exact ih (pre ++ [u]) e1 h1 (by simp [eq]) b
    | ct e1 h1 => rw [z, F.post_ct] at b; exact ih (pre ++ [u]) e1 h1 (by simp [eq]) b
    | bk e1 h1 => rw [z, F.post_bk] at b; simp only [F.post_nx]; exact b
    | rt u1 h1 => rw [z, F.post_rt] at b; simp only [F.post_rt]; exact b
    | exc c xs e1 h1 => rw [z, F.post_exc] at b; simp only [F.post_exc]; exact b
    | bad => rw [z, F.post_bad] at b; exact b.elim
end
/-- a comprehension's turns, any -/
theorem lcL_post {g : List (Nat × List U)} {D : Nat} {f : U → AH → R (Option U)} {us : List U} {h : AH} {Q : Unit → AH → Prop} {X} (I : List U → List U → AH → Prop)
    (h0 : I [] [] h) (hD : lstW h D = some [])
    (st : ∀ pre u rest out h, us = pre ++ u :: rest → I pre out h → lstW h D = some out → gdB h g = true ∧
      Post (f u h) (fun o h' => lstW h' D = some out ∧ out.length < lim ∧ match o with
        | none => I (pre ++ [u]) out h'
        | some v => I (pre ++ [u]) (out ++ [v]) (h'.set D (.lst (out ++ [v])))) nox)
    (en : ∀ out h, I us out h → lstW h D = some out → gdB h g = true ∧ Q () h) : Post (lcL g D f us h) Q X := by
  have lw : ∀ (h : AH) o xs, lstW h D = some o → lstW (h.set D (.lst xs)) D = some xs := by
    intro h o xs e
    have : D < h.length := by
      unfold lstW at e; by_cases q : D < h.length
      · exact q
      · rw [List.getElem?_eq_none (by omega)] at e; cases e
    simp [lstW, this]
  suffices H : ∀ (rest pre out : List U) h, us = pre ++ rest → I pre out h → lstW h D = some out → Post (lcL g D f rest h) Q X from H us [] [] h rfl h0 hD
  intro rest
  induction rest with
  | nil => intro pre out h eq k d; obtain ⟨a, b⟩ := en out h (by rw [eq, List.append_nil]; exact k) d; simp [lcL, a, b]
  | cons u rest ih =>
    intro pre out h eq k d
    obtain ⟨a, b⟩ := st pre u rest out h eq k d
    simp only [lcL, a, if_true]
    cases z : f u h with
    | ok o h' =>
      rw [z, Post.ok] at b; obtain ⟨b1, b2, b3⟩ := b
      cases o with
      | none => exact ih (pre ++ [u]) out h' (by simp [eq]) b3 b1
      | some v =>
        simp only [b1, b2, if_true]
        exact ih (pre ++ [u]) (out ++ [v]) _ (by simp [eq]) b3 (lw _ _ _ b1)
    | exc c xs h' => rw [z, Post.exc] at b; exact b.elim
    | bad => rw [z, Post.bad] at b; exact b.elim
/-- a comprehension whose turns leave the heap alone -/
theorem lcL_pure {g : List (Nat × List U)} {D : Nat} {f : U → AH → R (Option U)} {us : List U} {h : AH} (v : U → Option U)
    (hD : lstW h D = some []) (hg : ∀ out, gdB (h.set D (.lst out)) g = true) (hl : us.length ≤ lim)
    (st : ∀ u ∈ us, ∀ out, f u (h.set D (.lst out)) = .ok (v u) (h.set D (.lst out))) :
    lcL g D f us h = .ok () (h.set D (.lst (us.filterMap v))) := by
  have hd : D < h.length := by
    unfold lstW at hD; by_cases q : D < h.length
    · exact q
    · rw [List.getElem?_eq_none (by omega)] at hD; cases hD
  have e0 : h = h.set D (.lst []) := by
    apply List.ext_getElem?; intro n
    by_cases q : n = D
    · subst q
      have : h[n]? = some (.lst []) := by
        unfold lstW at hD; split at hD
        · rename_i z; simp_all
        · cases hD
      rw [this, List.getElem?_set_self hd]
    · rw [List.getElem?_set_ne (fun z => q z.symm)]
  suffices H : ∀ (rest : List U) out, (∀ u ∈ rest, u ∈ us) → out.length + rest.length ≤ lim → lcL g D f rest (h.set D (.lst out)) = .ok () (h.set D (.lst (out ++ rest.filterMap v))) by
    have := H us [] (fun u z => z) (by simpa using hl)
    rw [← e0] at this
    simpa using this
  intro rest
  induction rest with
  | nil => intro out m hl; simp [lcL, hg]
  | cons u rest ih =>
    intro out m hl
    have a := st u (m u (by simp)) out
    simp only [List.length_cons] at hl
    simp only [lcL, hg, if_true, a]
    cases z : v u with
    | none =>
      simp only [List.filterMap_cons, z]
      exact ih out (fun w hw => m w (by simp [hw])) (by omega)
    | some w =>
      simp only [List.filterMap_cons, z]
      have : lstW (h.set D (.lst out)) D = some out := by simp [lstW, hd]
      simp only [this]
      rw [if_pos (by omega)]
      have := ih (out ++ [w]) (fun w hw => m w (by simp [hw])) (by simp; omega)
      simpa using this

/-- all that stood stays, but at the places in S -/
structure Kp (S : List Nat) (h h' : AH) : Prop where
  le : h.length ≤ h'.length
  at_ : ∀ n < h.length, n ∉ S → h'[n]? = h[n]?
theorem Kp.rfl {S h} : Kp S h h := ⟨Nat.le_refl _, fun _ _ _ => Eq.refl _⟩
theorem Kp.trans {S h h1 h2} (a : Kp S h h1) (b : Kp S h1 h2) : Kp S h h2 :=
  ⟨Nat.le_trans a.le b.le, fun n k m => (b.at_ n (Nat.lt_of_lt_of_le k a.le) m).trans (a.at_ n k m)⟩
theorem Kp.get {S h h'} (a : Kp S h h') {n o} (e : h[n]? = some o) (m : n ∉ S) : h'[n]? = some o := by
  rw [a.at_ n (List.getElem?_eq_some_iff.mp e).1 m, e]
theorem Kp.app {S h} (j : AH) : Kp S h (h ++ j) := ⟨by simp, fun n k _ => by rw [List.getElem?_append_left k]⟩
theorem Kp.mem {S h n o} (m : n ∈ S) : Kp S h (h.set n o) := ⟨by simp, fun k _ q => by rw [List.getElem?_set_ne (by rintro rfl; exact q m)]⟩
/-- a place made later may be written -/
theorem Kp.late {S h h' n o} (a : Kp S h h') (m : h.length ≤ n) : Kp S h (h'.set n o) := ⟨by simpa using a.le, fun k q z => by rw [List.getElem?_set_ne (by omega)]; exact a.at_ k q z⟩
theorem Kp.mono {S T h h'} (a : Kp S h h') (m : ∀ n, n ∈ S → n ∈ T) : Kp T h h' := ⟨a.le, fun n k q => a.at_ n k (fun z => q (m n z))⟩
/-- places made later don't matter -/
theorem Kp.drop {S T h h' h''} (a : Kp S h h') (b : Kp T h' h'') (m : ∀ n, n ∈ T → n ∈ S ∨ h.length ≤ n) : Kp S h h'' :=
  ⟨Nat.le_trans a.le b.le, fun n k q => (b.at_ n (Nat.lt_of_lt_of_le k a.le) (fun z => (m n z).elim q (by omega))).trans (a.at_ n k q)⟩
theorem lt_of_at {h : AH} {n : Nat} {o : AO} (e : h[n]? = some o) : n < h.length := (List.getElem?_eq_some_iff.mp e).1
end Ev

/-! ### the lazy evaluator: rules that only look at the head -/
namespace Ev
abbrev Ox {α : Type} (_P : α → Prop) : Type := Option α
inductive LzO {α : Type} (P : α → Prop) : Ox P → Prop
  | some {a} : P a → LzO P (some a)
abbrev PostO {α : Type} (o : Option α) (P : α → Prop) : Prop := LzO P o
abbrev Bx (_a _b : Prop) : Type := Bool
/-- two ways -/
inductive Br (a b : Prop) : Bx a b → Prop
  | yes : a → Br a b true
  | nope : b → Br a b false
theorem Br.t {a b} : Br a b true = a := propext ⟨fun k => by cases k; assumption, .yes⟩
theorem Br.f {a b} : Br a b false = b := propext ⟨fun k => by cases k; assumption, .nope⟩
theorem Br.not {a b} {k : Bool} : Br a b (!k) = Br b a k := by cases k <;> simp only [Bool.not_true, Bool.not_false, Br.t, Br.f]
theorem Br.intro {a b : Prop} {k : Bool} (x : k = true → a) (y : k = false → b) : Br a b k := by
  cases k
  · rw [Br.f]; exact y rfl
  · rw [Br.t]; exact x rfl
theorem Br.dec {a b : Prop} {c : Prop} [Decidable c] (x : c → a) (y : ¬ c → b) : Br a b (decide c) := by
  by_cases k : c
  · rw [decide_eq_true k, Br.t]; exact x k
  · rw [decide_eq_false k, Br.f]; exact y k
theorem Br.pos {a b : Prop} {c : Prop} [Decidable c] (k : c) : Br a b (decide c) = a := by
  rw [decide_eq_true k, Br.t]
theorem Br.neg {a b : Prop} {c : Prop} [Decidable c] (k : ¬ c) : Br a b (decide c) = b := by
  rw [decide_eq_false k, Br.f]
@[simp] theorem PostO.some {α : Type} {a : α} {P : α → Prop} : PostO (some a) P = P a := propext ⟨fun k => by cases k; assumption, LzO.some⟩
@[simp] theorem PostO.none {α : Type} {P : α → Prop} : PostO none P = False := propext ⟨fun k => (nomatch k), False.elim⟩
theorem PostO.map {α β : Type} {o : Option α} {f : α → β} {P : β → Prop} : PostO (o.map f) P = PostO o (fun a => P (f a)) := by cases o <;> simp only [Option.map_some, Option.map_none, PostO.some, PostO.none]
theorem PostO.bind {α β : Type} {o : Option α} {f : α → Option β} {P : β → Prop} : PostO (o.bind f) P = PostO o (fun a => PostO (f a) P) := by cases o <;> simp only [Option.bind_some, Option.bind_none, PostO.some, PostO.none]
theorem PostO.ite {α : Type} {c : Prop} [Decidable c] {r s : Option α} {Q} : PostO (if c then r else s) Q = if c then PostO r Q else PostO s Q := by
  split <;> rfl
/-theorem lz_post {α : Type} {r r' : R α} {Q X} (e : r = r') : Post r Q X = Post r' Q X := by rw [e]
theorem lz_fpost {r r' : F} {nx rt xc bk ct} (e : r = r') : F.post r nx rt xc bk ct = F.post r' nx rt xc bk ct := by rw [e]
theorem lz_posto {α : Type} {r r' : Option α} {P : α → Prop} (e : r = r') : PostO r P = PostO r' P := by rw [e]
theorem lz_ite {α : Sort _} {c c' : Prop} [Decidable c] [Decidable c'] {a b : α} (e : c = c') : (if c then a else b) = (if c' then a else b) := by subst e; congr-/
theorem p_ofO {α : Type} {o : Option α} {h : AH} {Q : α → AH → Prop} {X} : Post (ofO o h) Q X = PostO o (fun a => Q a h) := by
  cases o <;> simp [Ev.ofO]
theorem p_truR {r : R U} {Q X} : Post (truR r) Q X = Post r (fun u h => PostO (tru h u) fun k => Q k h) X := by
  cases r with
  | ok u h => simp only [Ev.truR, p_ofO, Post.ok]
  | exc c xs h => simp only [Ev.truR, Post.exc]
  | bad => simp only [Ev.truR, Post.bad]
/-- what a name holds -/
def varR (o : Option (Option U)) (h : AH) : R U :=
  match o with
  | some (some u) => .ok u h
  | _ => .bad
theorem varR_ok {u h} : varR (some (some u)) h = .ok u h := rfl
section
variable {Γ : Tab} {Φ : Nat → List U → AH → R U} {e : Env} {h : AH}
theorem e_var {i} : evE Γ Φ (.var i) e h = varR e[i]? h := by rw [evE]; rfl
def negR : U → AH → R U
  | .int i, h => .ok (.int (-i)) h
  | _, _ => .bad
theorem e_neg {a} : evE Γ Φ (.neg a) e h = (evE Γ Φ a e h).bind negR := by
  simp only [evE]; congr; funext u h; cases u <;> rfl
def chR (Γ : Tab) (Φ : Nat → List U → AH → R U) (o2 : COp) (c : E) (e : Env) (v : U) (h : AH) : Bool → R U
  | true => (evE Γ Φ c e h).bind fun w h4 => (ofO (evCmp o2 v w h4) h4).bind fun k h5 => .ok (.bl k) h5
  | false => .ok (.bl false) h
theorem e_chain {o1 o2 a b c} : evE Γ Φ (.chain o1 o2 a b c) e h = (evE Γ Φ a e h).bind fun u h1 => (evE Γ Φ b e h1).bind fun v h2 => (ofO (evCmp o1 u v h2) h2).bind fun k h3 => chR Γ Φ o2 c e v h3 k := by
  simp only [evE]; congr
def ifR {α : Type} (k : Bool) (a b : α) : α := match k with | true => a | false => b
theorem ifR_dec {α : Type} {c : Prop} [Decidable c] {a b : α} : ifR (decide c) a b = if c then a else b := by
  unfold ifR; by_cases c <;> simp [*]
theorem p_ifR {α : Type} {k : Bool} {a b : R α} {Q X} : Post (ifR k a b) Q X = Br (Post a Q X) (Post b Q X) k := by cases k <;> simp only [ifR, Br.t, Br.f]
theorem f_ifR {k : Bool} {a b : F} {nx rt xc bk ct} : F.post (ifR k a b) nx rt xc bk ct = Br (F.post a nx rt xc bk ct) (F.post b nx rt xc bk ct) k := by cases k <;> simp only [ifR, Br.t, Br.f]
theorem o_ifR {α : Type} {k : Bool} {a b : Option α} {Q} : PostO (ifR k a b) Q = Br (PostO a Q) (PostO b Q) k := by cases k <;> simp only [ifR, Br.t, Br.f]
theorem ifR_t {α : Type} {a b : α} : ifR true a b = a := rfl
theorem ifR_f {α : Type} {a b : α} : ifR false a b = b := rfl
theorem e_ife {t a b} : evE Γ Φ (.ife t a b) e h = (truR (evE Γ Φ t e h)).bind fun k h1 => ifR k (evE Γ Φ a e h1) (evE Γ Φ b e h1) := by
  simp only [evE]; congr
theorem e_and {a b c} : evAnd Γ Φ (.cons a (.cons b c)) e h = (evE Γ Φ a e h).bind fun u h1 => (ofO (tru h1 u) h1).bind fun k h2 => ifR k (evAnd Γ Φ (.cons b c) e h2) (.ok u h2) := by
  rw [evAnd.eq_2]; congr
theorem e_or {a b c} : evOr Γ Φ (.cons a (.cons b c)) e h = (evE Γ Φ a e h).bind fun u h1 => (ofO (tru h1 u) h1).bind fun k h2 => ifR k (.ok u h2) (evOr Γ Φ (.cons b c) e h2) := by
  rw [evOr.eq_2]; congr
def methR (Γ : Tab) (Φ : Nat → List U → AH → R U) (m : Nat) (es : E) (e : Env) (u : U) (h1 : AH) : R U :=
  match u with
    | .ref n => match insAt h1 n with
      | some (c, fs) => match Γ.mt c m, lookF fs m with
        | some f, none => (evEs Γ Φ es e h1).bind fun us h2 => Φ f (.ref n :: us) h2
        | _, _ => .bad
      | none => .bad
    | _ => .bad
theorem e_meth {o m es} : evE Γ Φ (.meth o m es) e h = (evE Γ Φ o e h).bind fun u h1 => methR Γ Φ m es e u h1 := by
  simp only [evE]; congr
theorem methR_ok {n c fs f m es} (a : h[n]? = some (.ins c fs)) (b : Γ.mt c m = some f) (d : lookF fs m = none) : methR Γ Φ m es e (.ref n) h = (evEs Γ Φ es e h).bind fun us h2 => Φ f (.ref n :: us) h2 := by
  simp [methR, insAt, a, b, d]
def mkR (n : Nat) (r : U) (h : AH) : R U :=
  match r with
  | .non => .ok (.ref n) h
  | _ => .bad
theorem mkR_ok {n} : mkR n .non h = .ok (.ref n) h := rfl
theorem e_mk {c es f} (q : Γ.ini c = some f) : evE Γ Φ (.mk c es) e h = (evEs Γ Φ es e h).bind fun us h1 => (Φ f (.ref h1.length :: us) (h1 ++ [.ins c []])).bind fun r h2 => mkR h1.length r h2 := by
  simp only [evE, q]; congr
theorem e_bm {b o es} : evE Γ Φ (.bm b o es) e h = (evE Γ Φ o e h).bind fun u h1 => ifR (rcvB b u h1) ((evEs Γ Φ es e h1).bind fun us h2 => evBM b u us h2) .bad := by
  simp only [evE]; congr
theorem e_isi {a ts} : evE Γ Φ (.isi a ts) e h = (evE Γ Φ a e h).bind fun u h1 => (ofO (isAny Γ.isb h1 u ts) h1).bind fun k h2 => .ok (.bl k) h2 := by
  simp only [evE]
def lcF (Γ : Tab) (Φ : Nat → List U → AH → R U) (a : E) (p : P) (c : E) (e0 : Env) (u : U) (h2 : AH) : R (Option U) :=
  match evP p u e0 with
        | some e' => (evC Γ Φ c e' h2).bind fun k h3 => ifR k ((evE Γ Φ a e' h3).bind fun v h4 => .ok (some v) h4) (.ok none h3)
        | none => .bad
def lcR (Γ : Tab) (Φ : Nat → List U → AH → R U) (a : E) (p : P) (c : E) (e0 : Env) (its : Its) (h1 : AH) : R U :=
  match its.lk with
    | none => match lcL its.gd h1.length (lcF Γ Φ a p c e0) its.items (h1 ++ [.lst []]) with
      | .ok _ h2 => .ok (.ref h1.length) h2
      | _ => .bad
    | some _ => .bad
theorem e_lc {a p it c own} : evE Γ Φ (.lc a p it c own) e h = (evIt Γ Φ it e h).bind fun its h1 => lcR Γ Φ a p c (wipe e own) its h1 := by
  simp only [evE]; congr
theorem lcR_ok {a p c e0 its Q X} (k : its.lk = none) (w : Post (lcL its.gd h.length (lcF Γ Φ a p c e0) its.items (h ++ [.lst []])) (fun _ h2 => Q (.ref h.length) h2) nox) : Post (lcR Γ Φ a p c e0 its h) Q X := by
  unfold lcR; rw [k]; dsimp only
  cases z : lcL its.gd h.length (lcF Γ Φ a p c e0) its.items (h ++ [.lst []]) <;> rw [z] at w <;> simp_all
def optR (u : U) (h1 : AH) : R (Option Int) :=
  match u with
    | .int i => .ok (some i) h1
    | _ => .bad
theorem optR_ok {i} : optR (.int i) h = .ok (some i) h := rfl
theorem e_opt {a} : evOpt Γ Φ (.cons a .nil) e h = (evE Γ Φ a e h).bind optR := by
  rw [evOpt.eq_2]; congr
theorem p_fld {u f Q X} : Post (ofO (evFld Γ u f h) h) Q X = PostO (evFld Γ u f h) fun a => Q a h := p_ofO
theorem fld_ok {n c fs f} (a : h[n]? = some (.ins c fs)) (b : Γ.fl c f = true) : evFld Γ (.ref n) f h = lookF fs f := by
  simp [evFld, insAt, a, b]
/-! statements -/
def asgF (p : P) (e : Env) (u : U) (h1 : AH) : F :=
  match evP p u e with
    | some e1 => .nx e1 h1
    | none => .bad
theorem s_asg {p x} : evS Γ Φ (.asg p x) e h = F.ofR (evE Γ Φ x e h) e fun u h1 => asgF p e u h1 := by
  simp only [evS]; rfl
theorem asgF_name {i u} : asgF (.name i) e u h = .nx (e.set i (some u)) h := by simp [asgF, evP]
theorem asgF_tup {ps us} : asgF (.tup ps) e (.tup us) h = match evPs ps us e with | some e1 => .nx e1 h | none => .bad := by
  simp [asgF, evP]
def asubF (e : Env) (v u k : U) (h3 : AH) : F :=
  match u with
    | .ref n => match lstW h3 n with
      | some xs => match k with
        | .int j => match ixN xs.length j with
          | some m => .nx e (h3.set n (.lst (xs.set m v)))
          | none => .bad
        | _ => .bad
      | none => match dicW h3 n, keyOf k with
        | some kvs, some kk => if kvs.length < lim then .nx e (h3.set n (.dic (putD kvs kk v))) else .bad
        | _, _ => .bad
    | _ => .bad
theorem s_asub {o i x} : evS Γ Φ (.asub o i x) e h = F.ofR (evE Γ Φ x e h) e fun v h1 => F.ofR (evE Γ Φ o e h1) e fun u h2 => F.ofR (evE Γ Φ i e h2) e fun k h3 => asubF e v u k h3 := by
  simp only [evS]; rfl
theorem asubF_lst {n xs j m v} (a : h[n]? = some (.lst xs)) (b : ixN xs.length j = some m) : asubF e v (.ref n) (.int j) h = .nx e (h.set n (.lst (xs.set m v))) := by
  simp [asubF, lstW, a, b]
theorem asubF_dic {n kvs k kk v} (a : h[n]? = some (.dic kvs)) (b : keyOf k = some kk) (c : kvs.length < lim) : asubF e v (.ref n) k h = .nx e (h.set n (.dic (putD kvs kk v))) := by
  simp [asubF, lstW, dicW, a, b, c]
def afldF (Γ : Tab) (f : Nat) (e : Env) (v u : U) (h2 : AH) : F :=
  match u with
    | .ref n => match insAt h2 n with
      | some (c, fs) => if Γ.fl c f ∧ fs.length < 900 then .nx e (h2.set n (.ins c (putF f v fs))) else .bad
      | none => .bad
    | _ => .bad
theorem s_afld {o f x} : evS Γ Φ (.afld o f x) e h = F.ofR (evE Γ Φ x e h) e fun v h1 => F.ofR (evE Γ Φ o e h1) e fun u h2 => afldF Γ f e v u h2 := by
  simp only [evS]; rfl
theorem afldF_ok {n c fs f v} (a : h[n]? = some (.ins c fs)) (b : Γ.fl c f = true) (d : fs.length < 900) : afldF Γ f e v (.ref n) h = .nx e (h.set n (.ins c (putF f v fs))) := by
  simp [afldF, insAt, a, b, d]
theorem s_ifs {t a b} : evS Γ Φ (.ifs t a b) e h = F.ofR (truR (evE Γ Φ t e h)) e fun k h1 => ifR k (evS Γ Φ a e h1) (evS Γ Φ b e h1) := by
  simp only [evS]; congr
def augF (i : Nat) (op : BOp) (a : Int) (e : Env) (v : U) (h1 : AH) : F :=
  match op, v with
      | .add, .int b => .nx (e.set i (some (.int (a + b)))) h1
      | .sub, .int b => .nx (e.set i (some (.int (a - b)))) h1
      | _, _ => .bad
def augO (o : Option (Option U)) (f : Int → F) : F :=
  match o with
  | some (some (.int a)) => f a
  | _ => .bad
theorem augO_ok {a f} : augO (some (some (.int a))) f = f a := rfl
theorem s_aug {i op x} : evS Γ Φ (.aug i op x) e h = augO e[i]? fun a => F.ofR (evE Γ Φ x e h) e fun v h1 => augF i op a e v h1 := by
  simp only [evS]; rfl
def forB (Γ : Tab) (Φ : Nat → List U → AH → R U) (p : P) (b : S) (u : U) (e : Env) (h : AH) : F :=
  match evP p u e with
        | some e1 => evS Γ Φ b e1 h
        | none => .bad
theorem forB_name {i b u} : forB Γ Φ (.name i) b u e h = evS Γ Φ b (e.set i (some u)) h := by simp [forB, evP]
theorem forB_tup {ps b us} : forB Γ Φ (.tup ps) b (.tup us) e h = match evPs ps us e with | some e1 => evS Γ Φ b e1 h | none => .bad := by simp [forB, evP]
def forR (Γ : Tab) (Φ : Nat → List U → AH → R U) (p : P) (b : S) (e : Env) (its : Its) (h1 : AH) : F :=
  match its.lk with
    | none => forL (fun h => gdB h its.gd) (forB Γ Φ p b) its.items e h1
    | some n => match dicW h1 n with
      | some kvs => F.unlock n (.dic kvs) (forL (fun _ => true) (forB Γ Φ p b) its.items e (h1.set n (.frz (.dic kvs))))
      | none => .bad
theorem s_for {p it b} : evS Γ Φ (.for p it b) e h = F.ofR (evIt Γ Φ it e h) e fun its h1 => forR Γ Φ p b e its h1 := by
  simp only [evS]; rfl
theorem forR_ok {p b its} (k : its.lk = none) : forR Γ Φ p b e its h = forL (fun h => gdB h its.gd) (forB Γ Φ p b) its.items e h := by
  unfold forR; rw [k]
def raiF (n c : Nat) (e : Env) (us : List U) (h1 : AH) : F := if us.length = n then .exc c us e h1 else .bad
theorem s_rai {c es} : evS Γ Φ (.rai c es) e h = F.ofR (evEs Γ Φ es e h) e fun us h1 => raiF (Γ.xf c).length c e us h1 := by
  simp only [evS]; rfl
def triF (Γ : Tab) (Φ : Nat → List U → AH → R U) (hs : S) (r : F) : F :=
  match r with
    | .exc c xs e1 h1 => match Γ.xf c with
      | [] => .bad
      | _ :: _ => evH Γ Φ hs c xs e1 h1
    | r => r
theorem s_tri {b hs} : evS Γ Φ (.tri b hs) e h = triF Γ Φ hs (evS Γ Φ b e h) := by
  simp only [evS]; rfl
theorem p_tri {hs r nx rt xc bk ct} : F.post (triF Γ Φ hs r) nx rt xc bk ct = F.post r nx rt (fun c xs e1 h1 => Γ.xf c ≠ [] ∧ F.post (evH Γ Φ hs c xs e1 h1) nx rt xc bk ct) bk ct := by
  cases r <;> simp [triF]
  split <;> simp_all
end
end Ev
namespace Ev
section
variable {Γ : Tab} {Φ : Nat → List U → AH → R U} {e : Env} {h : AH}
theorem e_con {u} : evE Γ Φ (.con u) e h = .ok u h := rfl
theorem e_glb {g} : evE Γ Φ (.glb g) e h = ofO Γ.glb[g]? h := rfl
theorem e_bin {op a b} : evE Γ Φ (.bin op a b) e h = (evE Γ Φ a e h).bind fun u h1 => (evE Γ Φ b e h1).bind fun v h2 => evBin op u v h2 := rfl
theorem e_cmp {op a b} : evE Γ Φ (.cmp op a b) e h = (evE Γ Φ a e h).bind fun u h1 => (evE Γ Φ b e h1).bind fun v h2 => (ofO (evCmp op u v h2) h2).bind fun k h3 => .ok (.bl k) h3 := rfl
theorem e_not {a} : evE Γ Φ (.not a) e h = (truR (evE Γ Φ a e h)).bind fun k h1 => .ok (.bl (!k)) h1 := rfl
theorem e_andE {es} : evE Γ Φ (.and es) e h = evAnd Γ Φ es e h := rfl
theorem e_orE {es} : evE Γ Φ (.or es) e h = evOr Γ Φ es e h := rfl
theorem e_and1 {a} : evAnd Γ Φ (.cons a .nil) e h = evE Γ Φ a e h := rfl
theorem e_or1 {a} : evOr Γ Φ (.cons a .nil) e h = evE Γ Φ a e h := rfl
theorem e_tup {es} : evE Γ Φ (.tup es) e h = (evEs Γ Φ es e h).bind fun us h1 => .ok (.tup us) h1 := rfl
theorem e_lst {es} : evE Γ Φ (.lst es) e h = (evEs Γ Φ es e h).bind fun us h1 => newL h1 us := rfl
theorem e_dic0 : evE Γ Φ (.dic .nil .nil) e h = .ok (.ref h.length) (h ++ [.dic []]) := rfl
theorem e_dic {ks vs} : evE Γ Φ (.dic ks vs) e h = (evEs Γ Φ ks e (h ++ [.dic []])).bind fun us h1 => (evEs Γ Φ vs e h1).bind fun ws h2 => match us, ws with
    | [], [] => .ok (.ref h.length) h2
    | [ku], [vu] => match keyOf ku, dicW h2 h.length with
      | some k, some [] => .ok (.ref h.length) (h2.set h.length (.dic [(k, vu)]))
      | _, _ => .bad
    | _, _ => .bad := rfl
theorem e_ix {a i} : evE Γ Φ (.ix a i) e h = (evE Γ Φ a e h).bind fun u h1 => (evE Γ Φ i e h1).bind fun v h2 => ofO (evIx u v h2) h2 := rfl
theorem e_sl {a lo hi} : evE Γ Φ (.sl a lo hi) e h = (evE Γ Φ a e h).bind fun u h1 => (evOpt Γ Φ lo e h1).bind fun l h2 => (evOpt Γ Φ hi e h2).bind fun m h3 => evSl u l m h3 := rfl
theorem e_call {f es} : evE Γ Φ (.call f es) e h = (evEs Γ Φ es e h).bind fun us h1 => Φ f us h1 := rfl
theorem e_bi {b es} : evE Γ Φ (.bi b es) e h = (evEs Γ Φ es e h).bind fun us h1 => evBI b us h1 := rfl
theorem e_fld {o f} : evE Γ Φ (.fld o f) e h = (evE Γ Φ o e h).bind fun u h1 => ofO (evFld Γ u f h1) h1 := rfl
theorem es_nil : evEs Γ Φ .nil e h = .ok [] h := rfl
theorem es_cons {a b} : evEs Γ Φ (.cons a b) e h = (evE Γ Φ a e h).bind fun u h1 => (evEs Γ Φ b e h1).bind fun us h2 => .ok (u :: us) h2 := rfl
theorem e_optn : evOpt Γ Φ .nil e h = .ok none h := rfl
theorem c_nil : evC Γ Φ .nil e h = .ok true h := rfl
theorem c_cons {t} : evC Γ Φ (.cons t .nil) e h = truR (evE Γ Φ t e h) := rfl
theorem i_seq {a} : evIt Γ Φ (.iseq a) e h = (evE Γ Φ a e h).bind itSeq := rfl
theorem i_r1 {a} : evIt Γ Φ (.irange1 a) e h = (evE Γ Φ a e h).bind itR1 := rfl
theorem i_r2 {a b} : evIt Γ Φ (.irange2 a b) e h = (evE Γ Φ a e h).bind fun u h1 => (evE Γ Φ b e h1).bind fun v h2 => itR2 u v h2 := rfl
theorem i_en {a} : evIt Γ Φ (.ienum a) e h = (evE Γ Φ a e h).bind itEn := rfl
theorem i_zip {a b} : evIt Γ Φ (.izip a b) e h = (evE Γ Φ a e h).bind fun u h1 => (evE Γ Φ b e h1).bind fun v h2 => itZip u v h2 := rfl
theorem i_items {a} : evIt Γ Φ (.iitems a) e h = (evE Γ Φ a e h).bind itItems := rfl
theorem i_vals {a} : evIt Γ Φ (.ivalues a) e h = (evE Γ Φ a e h).bind itVals := rfl
theorem i_keys {a} : evIt Γ Φ (.ikeys a) e h = (evE Γ Φ a e h).bind itKeys := rfl
theorem s_nil : evS Γ Φ .nil e h = .nx e h := rfl
theorem s_cons {a b} : evS Γ Φ (.cons a b) e h = (evS Γ Φ a e h).seq fun e1 h1 => evS Γ Φ b e1 h1 := rfl
theorem s_ex {x} : evS Γ Φ (.ex x) e h = F.ofR (evE Γ Φ x e h) e fun _ h1 => .nx e h1 := rfl
theorem s_ret {x} : evS Γ Φ (.ret x) e h = F.ofR (evE Γ Φ x e h) e fun u h1 => .rt u h1 := rfl
theorem s_ret0 : evS Γ Φ .ret0 e h = .rt .non h := rfl
theorem s_brk : evS Γ Φ .brk e h = .bk e h := rfl
theorem s_cnt : evS Γ Φ .cnt e h = .ct e h := rfl
theorem s_pas : evS Γ Φ .pas e h = .nx e h := rfl
theorem raiF_ok {c us} {n : Nat} (q : us.length = n) : raiF n c e us h = .exc c us e h := by simp [raiF, q]
def bindF (o : Option Env) (f : Env → F) : F := match o with | some e1 => f e1 | none => .bad
end
/-! values -/
variable {h : AH}
theorem post_if {α : Type} {c : Prop} [Decidable c] {r : R α} {Q X} (k : c) : Post (if c then r else .bad) Q X = Post r Q X := by rw [if_pos k]
theorem fpost_if {c : Prop} [Decidable c] {r : F} {nx rt xc bk ct} (k : c) : F.post (if c then r else .bad) nx rt xc bk ct = F.post r nx rt xc bk ct := by rw [if_pos k]
theorem posto_if {α : Type} {c : Prop} [Decidable c] {r : Option α} {Q} (k : c) : PostO (if c then r else none) Q = PostO r Q := by rw [if_pos k]
theorem b_add {i j} : evBin .add (.int i) (.int j) h = .ok (.int (i + j)) h := rfl
theorem b_sub {i j} : evBin .sub (.int i) (.int j) h = .ok (.int (i - j)) h := rfl
theorem b_mul {i j} (k : (-18446744073709551616 < i ∧ i < 18446744073709551616) ∨ (-18446744073709551616 < j ∧ j < 18446744073709551616)) : evBin .mul (.int i) (.int j) h = .ok (.int (i * j)) h := if_pos k
theorem b_fdiv {i j} (k : 0 < j ∧ j < 1073741824) : evBin .fdiv (.int i) (.int j) h = .ok (.int (i / j)) h := if_pos k
theorem b_mod {i j} (k : 0 < j) : evBin .mod (.int i) (.int j) h = .ok (.int (i % j)) h := if_pos k
theorem b_str {a b} (k : a.length + b.length ≤ 100000) : evBin .add (.str a) (.str b) h = .ok (.str (a ++ b)) h := if_pos k
theorem b_tup {a b} (k : a ≠ [] ∧ a.length + b.length ≤ 100000) : evBin .add (.tup a) (.tup b) h = .ok (.tup (a ++ b)) h := if_pos k
/-- the sum of two lists -/
def addL (o p : Option (List U)) (h : AH) : R U :=
  match o, p with
    | some xs, some ys => if xs.length + ys.length ≤ lim then .ok (.ref h.length) (h ++ [.lst (xs ++ ys)]) else .bad
    | _, _ => .bad
theorem b_lst {a b} : evBin .add (.ref a) (.ref b) h = addL (lstW h a) (lstW h b) h := rfl
theorem addL_ok {xs ys} (k : xs.length + ys.length ≤ 100000) : addL (some xs) (some ys) h = .ok (.ref h.length) (h ++ [.lst (xs ++ ys)]) := if_pos k
theorem l_at {n} : lstAt h n = match h[n]? with
  | some (.lst xs) => some xs
  | some (.frz (.lst xs)) => some xs
  | _ => none := rfl
theorem l_w {n} : lstW h n = match h[n]? with
  | some (.lst xs) => some xs
  | _ => none := rfl
theorem d_at {n} : dicAt h n = match h[n]? with
  | some (.dic kvs) => some kvs
  | some (.frz (.dic kvs)) => some kvs
  | _ => none := rfl
theorem d_w {n} : dicW h n = match h[n]? with
  | some (.dic kvs) => some kvs
  | _ => none := rfl
theorem ix_tup {xs i} : evIx (.tup xs) (.int i) h = (ixN xs.length i).bind fun j => xs[j]? := rfl
theorem ix_ref {n v} : evIx (.ref n) v h = match lstAt h n with
    | some xs => match v with
      | .int i => (ixN xs.length i).bind fun j => xs[j]?
      | _ => none
    | none => match dicAt h n, keyOf v with
      | some kvs, some k => valD kvs k
      | _, _ => none := by cases v <;> rfl
theorem ix_str {z i} (k : z.length ≤ 100000) : evIx (.str z) (.int i) h = ((ixN z.length i).bind fun j => z[j]?).map fun c => .str [c] := if_pos k
theorem ixN_p {n : Nat} {i : Int} (a : 0 ≤ i) (b : i < (n : Int)) : ixN n i = some i.toNat := by simp [ixN, a, b]
theorem ixN_n {n : Nat} {i : Int} (a : i < 0) (b : -(n : Int) ≤ i) : ixN n i = some (i + n).toNat := by simp [ixN, show ¬ 0 ≤ i by omega, b]
theorem c_eq {u v} : evCmp .eq u v h = eqU h u v := rfl
theorem c_ne {u v} : evCmp .ne u v h = (eqU h u v).map (!·) := rfl
theorem c_lt {i j} : evCmp .lt (.int i) (.int j) h = some (decide (i < j)) := rfl
theorem c_le {i j} : evCmp .le (.int i) (.int j) h = some (decide (i ≤ j)) := rfl
theorem c_gt {i j} : evCmp .gt (.int i) (.int j) h = some (decide (j < i)) := rfl
theorem c_ge {i j} : evCmp .ge (.int i) (.int j) h = some (decide (j ≤ i)) := rfl
theorem c_in {u v} : evCmp .inn u v h = inU h u v := rfl
theorem c_nin {u v} : evCmp .nin u v h = (inU h u v).map (!·) := rfl
theorem c_is {u} : evCmp .is u .non h = some (isNon u) := rfl
theorem c_isnot {u} : evCmp .isnot u .non h = some (!isNon u) := rfl
theorem eq_ii {a b} : eqU h (.int a) (.int b) = some (decide (a = b)) := rfl
theorem eq_ss {a b} : eqU h (.str a) (.str b) = some (decide (a = b)) := by
  show some (a == b) = _
  congr 1
  by_cases k : a = b
  · subst k; simp
  · rw [decide_eq_false k]; simpa using k
theorem t_bl {b} : tru h (.bl b) = some b := rfl
theorem t_int {i} : tru h (.int i) = some (decide (i ≠ 0)) := by
  show some (i != 0) = _
  congr 1
  by_cases k : i = 0
  · subst k; rfl
  · simp [k]
theorem t_non : tru h .non = some false := rfl
theorem t_str {s} (k : s.length ≤ 100000) : tru h (.str s) = some (decide (s ≠ [])) := by
  show (if s.length ≤ lim then some (s.length != 0) else none) = _
  rw [if_pos k]; cases s <;> simp
theorem t_tup {xs} : tru h (.tup xs) = some (!xs.isEmpty) := rfl
theorem ifR_not {α : Type} {k : Bool} {a b : α} : ifR (!k) a b = ifR k b a := by cases k <;> rfl
theorem ifR_if {α : Type} {c : Prop} [Decidable c] {x y : Bool} {a b : α} : ifR (if c then x else y) a b = if c then ifR x a b else ifR y a b := by split <;> rfl
theorem len_lst {n xs} (k : lstAt h n = some xs) : evBI .len [.ref n] h = .ok (.int xs.length) h := by
  simp [evBI, k]
theorem bi_lens {s} (k : s.length ≤ 100000) : evBI .len [.str s] h = .ok (.int s.length) h := if_pos k
theorem bi_lent {xs} : evBI .len [.tup xs] h = .ok (.int xs.length) h := rfl
theorem bi_len {n} : evBI .len [.ref n] h = match lstAt h n with
      | some xs => .ok (.int xs.length) h
      | none => match dicW h n with
        | some kvs => .ok (.int kvs.length) h
        | none => .bad := rfl
theorem bi_max {i j} : evBI .max [.int i, .int j] h = .ok (.int (if j > i then j else i)) h := rfl
theorem bi_min {i j} : evBI .min [.int i, .int j] h = .ok (.int (if j < i then j else i)) h := rfl
theorem bi_str {i} (k : i.natAbs.log2 < 1920) : evBI .str [.int i] h = .ok (.str (sInt i)) h := if_pos k
theorem bi_divmod {i j} (k : 0 < j ∧ j < 1073741824) : evBI .divmod [.int i, .int j] h = .ok (.tup [.int (i / j), .int (i % j)]) h := if_pos k
theorem bm_append {n v xs} (a : h[n]? = some (.lst xs)) (k : xs.length < 100000) : evBM .append (.ref n) [v] h = .ok .non (h.set n (.lst (xs ++ [v]))) := by
  simp [evBM, lstW, a, k]
def appR (n : Nat) (v : U) (h : AH) (o : Option (List U)) : R U :=
  match o with
      | some xs => if xs.length < lim then .ok .non (h.set n (.lst (xs ++ [v]))) else .bad
      | none => .bad
theorem bm_app {n v} : evBM .append (.ref n) [v] h = appR n v h (lstW h n) := rfl
theorem appR_ok {n v xs} (k : xs.length < 100000) : appR n v h (some xs) = .ok .non (h.set n (.lst (xs ++ [v]))) := if_pos k
def extR (n : Nat) (h : AH) (o p : Option (List U)) : R U :=
  match o, p with
    | some xs, some ys => if xs.length + ys.length ≤ lim then .ok .non (h.set n (.lst (xs ++ ys))) else .bad
    | _, _ => .bad
theorem bm_ext {n m} : evBM .extend (.ref n) [.ref m] h = extR n h (lstW h n) (lstW h m) := rfl
theorem extR_ok {n xs ys} (k : xs.length + ys.length ≤ 100000) : extR n h (some xs) (some ys) = .ok .non (h.set n (.lst (xs ++ ys))) := if_pos k
theorem rcv_app {n} : rcvB .append (.ref n) h = (lstAt h n).isSome := rfl
theorem rcv_ext {n} : rcvB .extend (.ref n) h = (lstAt h n).isSome := rfl
theorem rcv_join {z} : rcvB .join (.str z) h = true := rfl
theorem rcv_split {z} : rcvB .split (.str z) h = true := rfl
theorem newL_ok {xs} : newL h xs = .ok (.ref h.length) (h ++ [.lst xs]) := rfl
/-! walks -/
theorem w_tup {xs} : itSeq (.tup xs) h = .ok ⟨xs, [], none⟩ h := rfl
theorem w_str {s} : itSeq (.str s) h = .ok ⟨s.map fun c => .str [c], [], none⟩ h := rfl
def itL (n : Nat) (o : Option (List U)) (h : AH) (f : List U → List U) : R Its :=
  match o with
  | some xs => .ok ⟨f xs, [(n, xs)], none⟩ h
  | none => .bad
theorem itL_ok {n xs f} : itL n (some xs) h f = .ok ⟨f xs, [(n, xs)], none⟩ h := rfl
theorem w_ref {n} : itSeq (.ref n) h = itL n (lstAt h n) h id := by
  show (match lstAt h n with | some xs => _ | none => _) = _
  cases lstAt h n <;> rfl
theorem w_en {n} : itEn (.ref n) h = itL n (lstAt h n) h (numbered 0) := by
  show (match lstAt h n with | some xs => _ | none => _) = _
  cases lstAt h n <;> rfl
theorem w_ent {xs} : itEn (.tup xs) h = .ok ⟨numbered 0 xs, [], none⟩ h := rfl
def idxR (h : AH) (y : U) (o : Option (List U)) : R U := match o with
  | some xs => ofO (firstAt h xs y) h
  | none => .bad
theorem bm_index {n y} : evBM .index (.ref n) [y] h = idxR h y (lstAt h n) := rfl
theorem idxR_ok {xs y v} (k : firstAt h xs y = some v) : idxR h y (some xs) = .ok v h := by show ofO _ h = _; rw [k]; rfl
def liR (h : AH) (o : Option (List U)) (p : Option (List (DK × U))) : R U := match o with
  | some xs => newL h xs
  | none => match p with
    | some kvs => newL h (keysU kvs)
    | none => .bad
theorem bi_listT {xs} : evBI .list [.tup xs] h = newL h xs := rfl
theorem bi_listR {n} : evBI .list [.ref n] h = liR h (lstAt h n) (dicAt h n) := rfl
theorem liR_l {xs p} : liR h (some xs) p = newL h xs := rfl
theorem liR_d {kvs} : liR h none (some kvs) = newL h (keysU kvs) := rfl
def tpR (h : AH) (o : Option (List U)) : R U := match o with
  | some xs => .ok (.tup xs) h
  | none => .bad
theorem bi_tupleT {xs} : evBI .tuple [.tup xs] h = .ok (.tup xs) h := rfl
theorem bi_tupleR {n} : evBI .tuple [.ref n] h = tpR h (lstAt h n) := rfl
theorem tpR_ok {xs} : tpR h (some xs) = .ok (.tup xs) h := rfl
theorem rcv_index {n} : rcvB .index (.ref n) h = (lstAt h n).isSome := rfl
theorem w_r1 {j} (k : -4611686018427387904 ≤ j ∧ j < 4611686018427387904) : itR1 (.int j) h = .ok ⟨(List.range j.toNat).map fun k => .int (k : Nat), [], none⟩ h := if_pos k
theorem w_r2 {i j} (k : -4611686018427387904 ≤ i ∧ i < 4611686018427387904 ∧ -4611686018427387904 ≤ j ∧ j < 4611686018427387904) : itR2 (.int i) (.int j) h = .ok ⟨(List.range (j - i).toNat).map fun k => .int (i + (k : Nat)), [], none⟩ h := if_pos k
theorem gd_nil : gdB h [] = true := rfl
theorem app_new {h j : AH} {o} : (h ++ o :: j)[h.length]? = some o := by simp
theorem set_new {h j : AH} {o x} : (h ++ o :: j).set h.length x = h ++ x :: j := by simp
theorem set_app {h j : AH} {n x} (k : n < h.length) : (h ++ j).set n x = h.set n x ++ j := by rw [List.set_append_left _ _ k]
theorem get_app {h j : AH} {n} (k : n < h.length) : (h ++ j)[n]? = h[n]? := List.getElem?_append_left k
theorem gd_one {n xs} (k : lstAt h n = some xs) : gdB h [(n, xs)] = true := by
  simp [gdB, k, (U.sames_iff xs xs).mpr rfl]
end Ev
/-! ### the same rules, told of what is wanted behind -/
namespace Ev
section
variable {Γ : Tab} {Φ : Nat → List U → AH → R U} {e : Env} {h : AH} {Q : U → AH → Prop} {X : Nat → List U → AH → Prop}
theorem q_var {i} : Post (evE Γ Φ (.var i) e h) Q X = Post (varR e[i]? h) Q X := by rw [e_var]
theorem q_con {u} : Post (evE Γ Φ (.con u) e h) Q X = Q u h := by simp only [e_con, Post.ok]
theorem q_glb {g} : Post (evE Γ Φ (.glb g) e h) Q X = PostO Γ.glb[g]? (fun u => Q u h) := by rw [e_glb, p_ofO]
theorem q_bin {op a b} : Post (evE Γ Φ (.bin op a b) e h) Q X = Post (evE Γ Φ a e h) (fun u h1 => Post (evE Γ Φ b e h1) (fun v h2 => Post (evBin op u v h2) Q X) X) X := by simp only [e_bin, Post.bind]
theorem q_cmp {op a b} : Post (evE Γ Φ (.cmp op a b) e h) Q X = Post (evE Γ Φ a e h) (fun u h1 => Post (evE Γ Φ b e h1) (fun v h2 => PostO (evCmp op u v h2) fun k => Q (.bl k) h2) X) X := by simp only [e_cmp, Post.bind, p_ofO, Post.ok]
theorem q_neg {a} : Post (evE Γ Φ (.neg a) e h) Q X = Post (evE Γ Φ a e h) (fun u h1 => Post (negR u h1) Q X) X := by simp only [e_neg, Post.bind]
theorem q_chain {o1 o2 a b c} : Post (evE Γ Φ (.chain o1 o2 a b c) e h) Q X = Post (evE Γ Φ a e h) (fun u h1 => Post (evE Γ Φ b e h1) (fun v h2 => PostO (evCmp o1 u v h2) fun k =>
    Br (Post (evE Γ Φ c e h2) (fun w h4 => PostO (evCmp o2 v w h4) fun k => Q (.bl k) h4) X) (Q (.bl false) h2) k) X) X := by
  simp only [e_chain, Post.bind, p_ofO]
  congr; funext u h1; congr; funext v h2; congr; funext k; cases k <;> simp only [chR, Post.bind, p_ofO, Post.ok, Br.t, Br.f]
theorem q_not {a} : Post (evE Γ Φ (.not a) e h) Q X = Post (evE Γ Φ a e h) (fun u h1 => PostO (tru h1 u) fun k => Q (.bl (!k)) h1) X := by simp only [e_not, Post.bind, p_truR, Post.ok]
theorem q_ife {t a b} : Post (evE Γ Φ (.ife t a b) e h) Q X = Post (evE Γ Φ t e h) (fun u h1 => PostO (tru h1 u) fun k => Br (Post (evE Γ Φ a e h1) Q X) (Post (evE Γ Φ b e h1) Q X) k) X := by simp only [e_ife, Post.bind, p_truR, p_ifR]
theorem q_andE {es} : Post (evE Γ Φ (.and es) e h) Q X = Post (evAnd Γ Φ es e h) Q X := rfl
theorem q_orE {es} : Post (evE Γ Φ (.or es) e h) Q X = Post (evOr Γ Φ es e h) Q X := rfl
theorem q_and1 {a} : Post (evAnd Γ Φ (.cons a .nil) e h) Q X = Post (evE Γ Φ a e h) Q X := rfl
theorem q_or1 {a} : Post (evOr Γ Φ (.cons a .nil) e h) Q X = Post (evE Γ Φ a e h) Q X := rfl
theorem q_and {a b c} : Post (evAnd Γ Φ (.cons a (.cons b c)) e h) Q X = Post (evE Γ Φ a e h) (fun u h1 => PostO (tru h1 u) fun k => Br (Post (evAnd Γ Φ (.cons b c) e h1) Q X) (Q u h1) k) X := by
  simp only [e_and, Post.bind, p_ofO, p_ifR]; congr; funext u h1; congr; funext k; rw [Post.ok]
theorem q_or {a b c} : Post (evOr Γ Φ (.cons a (.cons b c)) e h) Q X = Post (evE Γ Φ a e h) (fun u h1 => PostO (tru h1 u) fun k => Br (Q u h1) (Post (evOr Γ Φ (.cons b c) e h1) Q X) k) X := by
  simp only [e_or, Post.bind, p_ofO, p_ifR]; congr; funext u h1; congr; funext k; rw [Post.ok]
theorem q_tup {es} : Post (evE Γ Φ (.tup es) e h) Q X = Post (evEs Γ Φ es e h) (fun us h1 => Q (.tup us) h1) X := by simp only [e_tup, Post.bind, Post.ok]
theorem q_lst {es} : Post (evE Γ Φ (.lst es) e h) Q X = Post (evEs Γ Φ es e h) (fun us h1 => Q (.ref h1.length) (h1 ++ [.lst us])) X := by simp only [e_lst, Post.bind, Post.ok, newL_ok]
theorem q_dic0 : Post (evE Γ Φ (.dic .nil .nil) e h) Q X = Q (.ref h.length) (h ++ [.dic []]) := by simp only [e_dic0, Post.ok]
theorem q_ix {a i} : Post (evE Γ Φ (.ix a i) e h) Q X = Post (evE Γ Φ a e h) (fun u h1 => Post (evE Γ Φ i e h1) (fun v h2 => PostO (evIx u v h2) fun w => Q w h2) X) X := by simp only [e_ix, Post.bind, p_ofO]
theorem q_sl {a lo hi} : Post (evE Γ Φ (.sl a lo hi) e h) Q X = Post (evE Γ Φ a e h) (fun u h1 => Post (evOpt Γ Φ lo e h1) (fun l h2 => Post (evOpt Γ Φ hi e h2) (fun m h3 => Post (evSl u l m h3) Q X) X) X) X := by simp only [e_sl, Post.bind]
theorem q_call {f es} : Post (evE Γ Φ (.call f es) e h) Q X = Post (evEs Γ Φ es e h) (fun us h1 => Post (Φ f us h1) Q X) X := by simp only [e_call, Post.bind]
theorem q_bi {b es} : Post (evE Γ Φ (.bi b es) e h) Q X = Post (evEs Γ Φ es e h) (fun us h1 => Post (evBI b us h1) Q X) X := by simp only [e_bi, Post.bind]
theorem q_fld {o f} : Post (evE Γ Φ (.fld o f) e h) Q X = Post (evE Γ Φ o e h) (fun u h1 => PostO (evFld Γ u f h1) fun w => Q w h1) X := by simp only [e_fld, Post.bind, p_ofO]
theorem q_meth {o m es} : Post (evE Γ Φ (.meth o m es) e h) Q X = Post (evE Γ Φ o e h) (fun u h1 => Post (methR Γ Φ m es e u h1) Q X) X := by simp only [e_meth, Post.bind]
theorem q_methR {n c fs f m es} (a : h[n]? = some (.ins c fs)) (b : Γ.mt c m = some f) (d : lookF fs m = none) : Post (methR Γ Φ m es e (.ref n) h) Q X = Post (evEs Γ Φ es e h) (fun us h2 => Post (Φ f (.ref n :: us) h2) Q X) X := by
  simp only [methR_ok a b d, Post.bind]
theorem q_mk {c es f} (q : Γ.ini c = some f) : Post (evE Γ Φ (.mk c es) e h) Q X = Post (evEs Γ Φ es e h) (fun us h1 => Post (Φ f (.ref h1.length :: us) (h1 ++ [.ins c []])) (fun r h2 => Post (mkR h1.length r h2) Q X) X) X := by simp only [e_mk q, Post.bind]
theorem q_bm {b o es} : Post (evE Γ Φ (.bm b o es) e h) Q X = Post (evE Γ Φ o e h) (fun u h1 => Br (Post (evEs Γ Φ es e h1) (fun us h2 => Post (evBM b u us h2) Q X) X) False (rcvB b u h1)) X := by
  simp only [e_bm, Post.bind, p_ifR, Post.bad]; congr; funext u h1; rw [Post.bind, Post.bad]
theorem q_isi {a ts} : Post (evE Γ Φ (.isi a ts) e h) Q X = Post (evE Γ Φ a e h) (fun u h1 => PostO (isAny Γ.isb h1 u ts) fun k => Q (.bl k) h1) X := by simp only [e_isi, Post.bind, p_ofO, Post.ok]
theorem q_lc {a p it c own} : Post (evE Γ Φ (.lc a p it c own) e h) Q X = Post (evIt Γ Φ it e h) (fun its h1 => Post (lcR Γ Φ a p c (wipe e own) its h1) Q X) X := by simp only [e_lc, Post.bind]
theorem q_es_nil {Q : List U → AH → Prop} : Post (evEs Γ Φ .nil e h) Q X = Q [] h := by simp only [es_nil, Post.ok]
theorem q_es_cons {a b} {Q : List U → AH → Prop} : Post (evEs Γ Φ (.cons a b) e h) Q X = Post (evE Γ Φ a e h) (fun u h1 => Post (evEs Γ Φ b e h1) (fun us h2 => Q (u :: us) h2) X) X := by simp only [es_cons, Post.bind, Post.ok]
theorem q_optn {Q : Option Int → AH → Prop} : Post (evOpt Γ Φ .nil e h) Q X = Q none h := by simp only [e_optn, Post.ok]
theorem q_opt {a} {Q : Option Int → AH → Prop} : Post (evOpt Γ Φ (.cons a .nil) e h) Q X = Post (evE Γ Φ a e h) (fun u h1 => Post (optR u h1) Q X) X := by simp only [e_opt, Post.bind]
theorem q_c0 {Q : Bool → AH → Prop} : Post (evC Γ Φ .nil e h) Q X = Q true h := by simp only [c_nil, Post.ok]
theorem q_c1 {t} {Q : Bool → AH → Prop} : Post (evC Γ Φ (.cons t .nil) e h) Q X = Post (evE Γ Φ t e h) (fun u h1 => PostO (tru h1 u) fun k => Q k h1) X := by simp only [c_cons, p_truR]
section
variable {Q : Its → AH → Prop}
theorem q_iseq {a} : Post (evIt Γ Φ (.iseq a) e h) Q X = Post (evE Γ Φ a e h) (fun u h1 => Post (itSeq u h1) Q X) X := by simp only [i_seq, Post.bind]
theorem q_ir1 {a} : Post (evIt Γ Φ (.irange1 a) e h) Q X = Post (evE Γ Φ a e h) (fun u h1 => Post (itR1 u h1) Q X) X := by simp only [i_r1, Post.bind]
theorem q_ir2 {a b} : Post (evIt Γ Φ (.irange2 a b) e h) Q X = Post (evE Γ Φ a e h) (fun u h1 => Post (evE Γ Φ b e h1) (fun v h2 => Post (itR2 u v h2) Q X) X) X := by simp only [i_r2, Post.bind]
theorem q_ien {a} : Post (evIt Γ Φ (.ienum a) e h) Q X = Post (evE Γ Φ a e h) (fun u h1 => Post (itEn u h1) Q X) X := by simp only [i_en, Post.bind]
theorem q_izip {a b} : Post (evIt Γ Φ (.izip a b) e h) Q X = Post (evE Γ Φ a e h) (fun u h1 => Post (evE Γ Φ b e h1) (fun v h2 => Post (itZip u v h2) Q X) X) X := by simp only [i_zip, Post.bind]
theorem q_iitems {a} : Post (evIt Γ Φ (.iitems a) e h) Q X = Post (evE Γ Φ a e h) (fun u h1 => Post (itItems u h1) Q X) X := by simp only [i_items, Post.bind]
theorem q_ivals {a} : Post (evIt Γ Φ (.ivalues a) e h) Q X = Post (evE Γ Φ a e h) (fun u h1 => Post (itVals u h1) Q X) X := by simp only [i_vals, Post.bind]
theorem q_ikeys {a} : Post (evIt Γ Φ (.ikeys a) e h) Q X = Post (evE Γ Φ a e h) (fun u h1 => Post (itKeys u h1) Q X) X := by simp only [i_keys, Post.bind]
end
section
variable {nx : Env → AH → Prop} {rt : U → AH → Prop} {xc : Nat → List U → Env → AH → Prop} {bk ct : Env → AH → Prop}
theorem q_nil : F.post (evS Γ Φ .nil e h) nx rt xc bk ct = nx e h := by simp only [s_nil, F.post_nx]
theorem q_cons {a b} : F.post (evS Γ Φ (.cons a b) e h) nx rt xc bk ct = F.post (evS Γ Φ a e h) (fun e h => F.post (evS Γ Φ b e h) nx rt xc bk ct) rt xc bk ct := by rw [s_cons, F.post_seq]
theorem q_asg {p x} : F.post (evS Γ Φ (.asg p x) e h) nx rt xc bk ct = Post (evE Γ Φ x e h) (fun u h1 => F.post (asgF p e u h1) nx rt xc bk ct) (fun c xs h => xc c xs e h) := by rw [s_asg, F.post_ofR]
theorem q_asub {o i x} : F.post (evS Γ Φ (.asub o i x) e h) nx rt xc bk ct = Post (evE Γ Φ x e h) (fun v h1 => Post (evE Γ Φ o e h1) (fun u h2 => Post (evE Γ Φ i e h2) (fun k h3 => F.post (asubF e v u k h3) nx rt xc bk ct) (fun c xs h => xc c xs e h)) (fun c xs h => xc c xs e h)) (fun c xs h => xc c xs e h) := by simp only [s_asub, F.post_ofR]
theorem q_afld {o f x} : F.post (evS Γ Φ (.afld o f x) e h) nx rt xc bk ct = Post (evE Γ Φ x e h) (fun v h1 => Post (evE Γ Φ o e h1) (fun u h2 => F.post (afldF Γ f e v u h2) nx rt xc bk ct) (fun c xs h => xc c xs e h)) (fun c xs h => xc c xs e h) := by simp only [s_afld, F.post_ofR]
theorem q_ifs {t a b} : F.post (evS Γ Φ (.ifs t a b) e h) nx rt xc bk ct = Post (evE Γ Φ t e h) (fun u h1 => PostO (tru h1 u) fun k => Br (F.post (evS Γ Φ a e h1) nx rt xc bk ct) (F.post (evS Γ Φ b e h1) nx rt xc bk ct) k) (fun c xs h => xc c xs e h) := by simp only [s_ifs, F.post_ofR, p_truR, f_ifR]
theorem q_aug {i op x} : F.post (evS Γ Φ (.aug i op x) e h) nx rt xc bk ct = F.post (augO e[i]? fun a => F.ofR (evE Γ Φ x e h) e fun v h1 => augF i op a e v h1) nx rt xc bk ct := by rw [s_aug]
theorem q_ex {x} : F.post (evS Γ Φ (.ex x) e h) nx rt xc bk ct = Post (evE Γ Φ x e h) (fun _ h1 => nx e h1) (fun c xs h => xc c xs e h) := by simp only [s_ex, F.post_ofR, F.post_nx]
theorem q_ret {x} : F.post (evS Γ Φ (.ret x) e h) nx rt xc bk ct = Post (evE Γ Φ x e h) (fun u h1 => rt u h1) (fun c xs h => xc c xs e h) := by simp only [s_ret, F.post_ofR, F.post_rt]
theorem q_ret0 : F.post (evS Γ Φ .ret0 e h) nx rt xc bk ct = rt .non h := by simp only [s_ret0, F.post_rt]
theorem q_brk : F.post (evS Γ Φ .brk e h) nx rt xc bk ct = bk e h := by simp only [s_brk, F.post_bk]
theorem q_cnt : F.post (evS Γ Φ .cnt e h) nx rt xc bk ct = ct e h := by simp only [s_cnt, F.post_ct]
theorem q_pas : F.post (evS Γ Φ .pas e h) nx rt xc bk ct = nx e h := by simp only [s_pas, F.post_nx]
theorem q_for {p it b} : F.post (evS Γ Φ (.for p it b) e h) nx rt xc bk ct = Post (evIt Γ Φ it e h) (fun its h1 => F.post (forR Γ Φ p b e its h1) nx rt xc bk ct) (fun c xs h => xc c xs e h) := by simp only [s_for, F.post_ofR]
theorem q_rai {c es} : F.post (evS Γ Φ (.rai c es) e h) nx rt xc bk ct = Post (evEs Γ Φ es e h) (fun us h1 => F.post (raiF (Γ.xf c).length c e us h1) nx rt xc bk ct) (fun c xs h => xc c xs e h) := by simp only [s_rai, F.post_ofR]
theorem q_tri {b hs} : F.post (evS Γ Φ (.tri b hs) e h) nx rt xc bk ct = F.post (evS Γ Φ b e h) nx rt (fun c xs e1 h1 => Γ.xf c ≠ [] ∧ F.post (evH Γ Φ hs c xs e1 h1) nx rt xc bk ct) bk ct := by rw [s_tri, p_tri]
theorem q_out {r : F} : Post (F.out r) Q X = F.post r (fun _ h => Q .non h) Q (fun c xs _ h => X c xs h) (fun _ _ => False) (fun _ _ => False) := F.post_out
end
theorem q_callF {T n f us h d} (a : T f = some d) (k : us.length = d.np) : Post (callF Γ T (n+1) f us h) Q X = F.post (evS Γ (callF Γ T n) d.body (start d.nl us) h) (fun _ h => Q .non h) Q (fun c xs _ h => X c xs h) (fun _ _ => False) (fun _ _ => False) := by
  rw [← q_out, callF, a]; dsimp only; rw [if_pos k]
end
end Ev
namespace Ev
section
variable {Γ : Tab} {Φ : Nat → List U → AH → R U} {e : Env} {h : AH}
def setF (e : Env) (n : Nat) (xs : List U) (v : U) (h : AH) (o : Option Nat) : F := match o with | some m => .nx e (h.set n (.lst (xs.set m v))) | none => .bad
theorem setF_ok {n xs v m} : setF e n xs v h (some m) = .nx e (h.set n (.lst (xs.set m v))) := rfl
def putR (e : Env) (n : Nat) (kvs : List (DK × U)) (v : U) (h : AH) (o : Option DK) : F := match o with
  | some kk => if kvs.length < lim then .nx e (h.set n (.dic (putD kvs kk v))) else .bad
  | none => .bad
theorem putR_ok {n kvs v k} (q : kvs.length < 100000) : putR e n kvs v h (some k) = .nx e (h.set n (.dic (putD kvs k v))) := if_pos q
def asubR (e : Env) (v : U) (n : Nat) (k : U) (h : AH) (o : Option (List U)) (d : Option (List (DK × U))) : F :=
  match o with
  | some xs => match k with
    | .int j => setF e n xs v h (ixN xs.length j)
    | _ => .bad
  | none => match d with
    | some kvs => putR e n kvs v h (keyOf k)
    | none => .bad
theorem asubF_ref {v n k} : asubF e v (.ref n) k h = asubR e v n k h (lstW h n) (dicW h n) := by
  unfold asubF asubR
  dsimp only
  cases lstW h n with
  | some xs => cases k <;> rfl
  | none => cases dicW h n with
    | none => rfl
    | some kvs => cases keyOf k <;> rfl
theorem asubR_l {v n j xs d} : asubR e v n (.int j) h (some xs) d = setF e n xs v h (ixN xs.length j) := rfl
theorem asubR_d {v n k kvs} : asubR e v n k h none (some kvs) = putR e n kvs v h (keyOf k) := rfl
theorem ko_s {s} : keyOf (.str s) = some (.inr s) := rfl
theorem ko_i {s} : keyOf (.int s) = some (.inl s) := rfl
theorem n_at {n} : insAt h n = match h[n]? with
  | some (.ins c fs) => some (c, fs)
  | _ => none := rfl
def afldR (b : Nat → Bool) (f : Nat) (e : Env) (v : U) (n : Nat) (h2 : AH) (o : Option (Nat × List (Nat × U))) : F :=
  match o with
      | some (c, fs) => if b c ∧ fs.length < 900 then .nx e (h2.set n (.ins c (putF f v fs))) else .bad
      | none => .bad
theorem afldF_ref {f v n} : afldF Γ f e v (.ref n) h = afldR (fun c => Γ.fl c f) f e v n h (insAt h n) := rfl
theorem afldR_ok {b f v n c fs} (q : b c = true) (r : fs.length < 900) : afldR b f e v n h (some (c, fs)) = .nx e (h.set n (.ins c (putF f v fs))) := if_pos ⟨q, r⟩
def fldO (b : Nat → Bool) (f : Nat) (o : Option (Nat × List (Nat × U))) : Option U :=
  match o with
    | some (c, fs) => if b c then lookF fs f else none
    | none => none
theorem fld_ref {n f} : evFld Γ (.ref n) f h = fldO (fun c => Γ.fl c f) f (insAt h n) := rfl
theorem fldO_ok {b f c fs} (q : b c = true) : fldO b f (some (c, fs)) = lookF fs f := if_pos q
def slO (h : AH) (lo hi : Option Int) (o : Option (List U)) : R U :=
  match o with
    | some xs => .ok (.ref h.length) (h ++ [.lst (cut xs lo hi)])
    | none => .bad
theorem sl_ref {n lo hi} : evSl (.ref n) lo hi h = slO h lo hi (lstAt h n) := rfl
theorem slO_ok {xs lo hi} : slO h lo hi (some xs) = .ok (.ref h.length) (h ++ [.lst (cut xs lo hi)]) := rfl
theorem sl_tup {xs lo hi} : evSl (.tup xs) lo hi h = .ok (.tup (cut xs lo hi)) h := rfl
end
end Ev
namespace Ev
/-! ### pure answers -/
theorem eq_of_post {r : R U} {v : U} {h : AH} (p : Post r (fun u h' => u = v ∧ h' = h) nox) : r = .ok v h := by
  cases r with
  | ok a h' => rw [Post.ok] at p; obtain ⟨rfl, rfl⟩ := p; rfl
  | exc c xs h' => rw [Post.exc] at p; exact p.elim
  | bad => rw [Post.bad] at p; exact p.elim
theorem exc_of_post {r : R U} {c : Nat} {xs : List U} {h : AH} (p : Post r (fun _ _ => False) (fun c' xs' h' => c' = c ∧ xs' = xs ∧ h' = h)) : r = .exc c xs h := by
  cases r with
  | ok a h' => rw [Post.ok] at p; exact p.elim
  | exc c xs h' => rw [Post.exc] at p; obtain ⟨rfl, rfl, rfl⟩ := p; rfl
  | bad => rw [Post.bad] at p; exact p.elim
/-- a thing whose kind is known, and which is no object of an own class -/
def Kno (h : AH) (u : U) : Prop := ∃ k, kdOf h u = some k ∧ ∀ c, k ≠ .ins c
def isIntU : U → Bool | .int _ => true | _ => false
def isBlU : U → Bool | .bl _ => true | _ => false
def isStrU : U → Bool | .str _ => true | _ => false
def isTupU : U → Bool | .tup _ => true | _ => false
theorem isa_int {h u sub} (k : Kno h u) : isAny sub h u [.int] = some (isIntU u || isBlU u) := by
  obtain ⟨k, e, n⟩ := k
  simp only [isAny, isTy, e, Option.bind_some]
  cases u <;> simp only [kdOf, Option.some.injEq, reduceCtorEq] at e <;> (try subst e) <;> (try rfl)
  rename_i m
  split at e <;> (try cases e) <;> (try rfl)
  exact absurd rfl (n _)
theorem isa_bool {h u sub} (k : Kno h u) : isAny sub h u [.bool] = some (isBlU u) := by
  obtain ⟨k, e, n⟩ := k
  simp only [isAny, isTy, e, Option.bind_some]
  cases u <;> simp only [kdOf, Option.some.injEq, reduceCtorEq] at e <;> (try subst e) <;> (try rfl)
  rename_i m
  split at e <;> (try cases e) <;> (try rfl)
  exact absurd rfl (n _)
theorem isa_str {h u sub} (k : Kno h u) : isAny sub h u [.str] = some (isStrU u) := by
  obtain ⟨k, e, n⟩ := k
  simp only [isAny, isTy, e, Option.bind_some]
  cases u <;> simp only [kdOf, Option.some.injEq, reduceCtorEq] at e <;> (try subst e) <;> (try rfl)
  rename_i m
  split at e <;> (try cases e) <;> (try rfl)
  exact absurd rfl (n _)
theorem isa_tup {h u sub} (k : Kno h u) : isAny sub h u [.tuple] = some (isTupU u) := by
  obtain ⟨k, e, n⟩ := k
  simp only [isAny, isTy, e, Option.bind_some]
  cases u <;> simp only [kdOf, Option.some.injEq, reduceCtorEq] at e <;> (try subst e) <;> (try rfl)
  rename_i m
  split at e <;> (try cases e) <;> (try rfl)
  exact absurd rfl (n _)
theorem kno_int {h i} : Kno h (.int i) := ⟨_, rfl, fun _ => by simp⟩
theorem kno_str {h i} : Kno h (.str i) := ⟨_, rfl, fun _ => by simp⟩
theorem kno_bl {h i} : Kno h (.bl i) := ⟨_, rfl, fun _ => by simp⟩
theorem kno_non {h} : Kno h .non := ⟨_, rfl, fun _ => by simp⟩
theorem kno_tup {h i} : Kno h (.tup i) := ⟨_, rfl, fun _ => by simp⟩
theorem kno_lst {h n xs} (e : h[n]? = some (.lst xs)) : Kno h (.ref n) := ⟨.list, by simp [kdOf, e], fun _ => by simp⟩
theorem kno_dic {h n xs} (e : h[n]? = some (.dic xs)) : Kno h (.ref n) := ⟨.dict, by simp [kdOf, e], fun _ => by simp⟩
theorem Kno.app {h u} (k : Kno h u) (j : AH) : Kno (h ++ j) u := by
  obtain ⟨k, e, n⟩ := k
  refine ⟨k, ?_, n⟩
  cases u <;> simp only [kdOf] at e ⊢ <;> (try exact e)
  rename_i m
  have : m < h.length := by
    by_cases q : m < h.length
    · exact q
    · rw [List.getElem?_eq_none (by omega)] at e; cases e
  rw [List.getElem?_append_left this]; exact e
theorem Kno.kp {h h' : AH} {u : U} {b : Nat} {a c : List U} (k : Kno h u) (q : Kp [b] h h') (x : h[b]? = some (.lst a)) (y : h'[b]? = some (.lst c)) : Kno h' u := by
  obtain ⟨k, e, n⟩ := k
  refine ⟨k, ?_, n⟩
  cases u <;> simp only [kdOf] at e ⊢ <;> (try exact e)
  rename_i m
  by_cases z : m = b
  · subst z; rw [x] at e; rw [y]; exact e
  have : m < h.length := by
    by_cases q : m < h.length
    · exact q
    · rw [List.getElem?_eq_none (by omega)] at e; cases e
  rw [q.at_ m this (by simpa using z)]; exact e
theorem isa_seq {h u sub} (k : Kno h u) : isAny sub h u [.list, .tuple] = some (isTupU u || (lstOf h u).isSome) := by
  obtain ⟨k, e, n⟩ := k
  simp only [isAny, isTy, e, Option.bind_some]
  cases u <;> simp only [kdOf, Option.some.injEq, reduceCtorEq] at e <;> (try subst e) <;> (try rfl)
  rename_i m
  simp only [lstOf, lstAt]
  split at e <;> (try cases e) <;> (try rfl) <;> rename_i z <;> (try simp only [z]) <;> (try rfl)
  exact absurd rfl (n _)
end Ev
namespace Ev
section
variable {Γ : Tab} {Φ : Nat → List U → AH → R U} {e : Env} {h : AH}
theorem gd_app {n xs} {j : AH} (k : h[n]? = some (.lst xs)) : gdB (h ++ j) [(n, xs)] = true := by
  apply gd_one
  rw [l_at, List.getElem?_append_left (lt_of_at k), k]
theorem gd_at {n xs} (k : h[n]? = some (.lst xs)) : gdB h [(n, xs)] = true := by
  apply gd_one; rw [l_at, k]
theorem lcF_name {a c e0 u i X} {Q : Option U → AH → Prop} : Post (lcF Γ Φ a (.name i) c e0 u h) Q X = Post (evC Γ Φ c (e0.set i (some u)) h) (fun k h3 => Br (Post (evE Γ Φ a (e0.set i (some u)) h3) (fun v h4 => Q (some v) h4) X) (Q none h3) k) X := by
  unfold lcF; simp only [evP, Post.bind, p_ifR, Post.ok]
  congr; funext k h3; rw [Post.bind]; congr; funext v h4; rw [Post.ok]; rw [Post.ok]
/-- a comprehension that leaves the heap alone -/
theorem lc_pure {a p c e0 its X} {Q : U → AH → Prop} (v : U → Option U) (k : its.lk = none) (hg : ∀ out, gdB (h ++ [.lst out]) its.gd = true) (hl : its.items.length ≤ lim)
    (st : ∀ u ∈ its.items, ∀ out, Post (lcF Γ Φ a p c e0 u (h ++ [.lst out])) (fun o h' => o = v u ∧ h' = h ++ [.lst out]) nox)
    (w : Q (.ref h.length) (h ++ [.lst (its.items.filterMap v)])) : Post (lcR Γ Φ a p c e0 its h) Q X := by
  refine lcR_ok k ?_
  rw [lcL_pure v (by simp [lstW]) (fun out => by simpa using hg out) hl fun u hu out => ?_]
  · rw [Post.ok]; simpa using w
  · have := st u hu out
    have e1 : (h ++ [AO.lst []]).set h.length (AO.lst out) = h ++ [AO.lst out] := by simp
    rw [e1]
    cases z : lcF Γ Φ a p c e0 u (h ++ [.lst out]) with
    | ok o h' => rw [z, Post.ok] at this; rw [this.1, this.2]
    | exc c xs h' => rw [z, Post.exc] at this; exact this.elim
    | bad => rw [z, Post.bad] at this; exact this.elim
theorem lc_map {α : Type} {a p c e0 its X} {Q : U → AH → Prop} (l : List α) (f v : α → U) (hi : its.items = l.map f) (k : its.lk = none) (hg : ∀ out, gdB (h ++ [.lst out]) its.gd = true) (hl : l.length ≤ 100000)
    (st : ∀ x ∈ l, ∀ out, Post (lcF Γ Φ a p c e0 (f x) (h ++ [.lst out])) (fun o h' => o = some (v x) ∧ h' = h ++ [.lst out]) nox)
    (w : Q (.ref h.length) (h ++ [.lst (l.map v)])) : Post (lcR Γ Φ a p c e0 its h) Q X := by
  refine lcR_ok k ?_
  suffices H : ∀ (m : List α) acc, (∀ x ∈ m, x ∈ l) → acc.length + m.length ≤ 100000 → lcL its.gd h.length (lcF Γ Φ a p c e0) (m.map f) (h ++ [.lst acc]) = .ok () (h ++ [.lst (acc ++ m.map v)]) by
    have := H l [] (fun x hx => hx) (by simpa using hl)
    rw [hi, this, Post.ok]; simpa using w
  intro m
  induction m with
  | nil => intro acc _ _; simp [lcL, hg]
  | cons x m ih =>
    intro acc hm hl
    simp only [List.map_cons, lcL, hg, if_true]
    have := st x (hm x (by simp)) acc
    simp only [List.length_cons] at hl
    cases z : lcF Γ Φ a p c e0 (f x) (h ++ [.lst acc]) with
    | ok o h' =>
      rw [z, Post.ok] at this; rw [this.1, this.2]
      simp only [lstW, List.getElem?_concat_length]
      rw [if_pos (show acc.length < lim by show acc.length < 100000; omega)]
      have e1 : (h ++ [AO.lst acc]).set h.length (AO.lst (acc ++ [v x])) = h ++ [AO.lst (acc ++ [v x])] := by simp
      rw [e1]
      have := ih (acc ++ [v x]) (fun y hy => hm y (by simp [hy])) (by simp; omega)
      simpa using this
    | exc c xs h' => rw [z, Post.exc] at this; exact this.elim
    | bad => rw [z, Post.bad] at this; exact this.elim
theorem lc_filter {α : Type} {a p c e0 its X} {Q : U → AH → Prop} (l : List α) (f v : α → U) (b : α → Bool) (hi : its.items = l.map f) (k : its.lk = none) (hg : ∀ out, gdB (h ++ [.lst out]) its.gd = true) (hl : l.length ≤ 100000)
    (st : ∀ x ∈ l, ∀ out, Post (lcF Γ Φ a p c e0 (f x) (h ++ [.lst out])) (fun o h' => o = (if b x then some (v x) else none) ∧ h' = h ++ [.lst out]) nox)
    (w : Q (.ref h.length) (h ++ [.lst ((l.filter b).map v)])) : Post (lcR Γ Φ a p c e0 its h) Q X := by
  refine lcR_ok k ?_
  suffices H : ∀ (m : List α) acc, (∀ x ∈ m, x ∈ l) → acc.length + m.length ≤ 100000 → lcL its.gd h.length (lcF Γ Φ a p c e0) (m.map f) (h ++ [.lst acc]) = .ok () (h ++ [.lst (acc ++ (m.filter b).map v)]) by
    have := H l [] (fun x hx => hx) (by simpa using hl)
    rw [hi, this, Post.ok]; simpa using w
  intro m
  induction m with
  | nil => intro acc _ _; simp [lcL, hg]
  | cons x m ih =>
    intro acc hm hl
    simp only [List.map_cons, lcL, hg, if_true]
    have := st x (hm x (by simp)) acc
    simp only [List.length_cons] at hl
    cases z : lcF Γ Φ a p c e0 (f x) (h ++ [.lst acc]) with
    | ok o h' =>
      rw [z, Post.ok] at this; rw [this.1, this.2]
      cases hb : b x with
      | true =>
        simp only [lstW, List.getElem?_concat_length, if_true]
        rw [if_pos (show acc.length < lim by show acc.length < 100000; omega)]
        have e1 : (h ++ [AO.lst acc]).set h.length (AO.lst (acc ++ [v x])) = h ++ [AO.lst (acc ++ [v x])] := by simp
        rw [e1]
        have := ih (acc ++ [v x]) (fun y hy => hm y (by simp [hy])) (by simp; omega)
        simpa [hb] using this
      | false =>
        have := ih acc (fun y hy => hm y (by simp [hy])) (by omega)
        simpa [hb] using this
    | exc c xs h' => rw [z, Post.exc] at this; exact this.elim
    | bad => rw [z, Post.bad] at this; exact this.elim
theorem in_sc {c z} : inU h (.str [c]) (.str z) = some (decide (c ∈ z)) := rfl
theorem negR_int {i} : negR (.int i) h = .ok (.int (-i)) h := rfl
section
variable {nx : Env → AH → Prop} {rt : U → AH → Prop} {xc : Nat → List U → Env → AH → Prop} {bk ct : Env → AH → Prop} {g : AH → Bool} {body : U → Env → AH → F}
theorem q_forNil : F.post (forL g body [] e h) nx rt xc bk ct = Br (nx e h) False (g h) := by
  simp only [forL]; cases g h <;> simp [Br.t, Br.f]
theorem q_forCons {u us} : F.post (forL g body (u :: us) e h) nx rt xc bk ct = Br (F.post (body u e h) (fun e' h' => F.post (forL g body us e' h') nx rt xc bk ct) rt xc nx (fun e' h' => F.post (forL g body us e' h') nx rt xc bk ct)) False (g h) := by
  simp only [forL]; cases g h
  · simp [Br.f]
  · simp only [if_true, Br.t]
    cases body u e h <;> simp
end
theorem w_zip {xs ys} : itZip (.tup xs) (.tup ys) h = .ok ⟨List.zipWith (fun x y => .tup [x, y]) xs ys, [], none⟩ h := rfl
theorem bools_map {α : Type} (f : α → Bool) : ∀ l : List α, bools (l.map fun x => .bl (f x)) = some (l.map f)
  | [] => rfl
  | x :: r => by simp [bools, bools_map f r]
theorem strs_map {α : Type} (f : α → List Nat) : ∀ l : List α, strsU (l.map fun x => .str (f x)) = some (l.map f)
  | [] => rfl
  | x :: r => by simp [strsU, strs_map f r]
theorem ints_map {α : Type} (f : α → Int) : ∀ l : List α, intsU (l.map fun x => .int (f x)) = some (l.map f)
  | [] => rfl
  | x :: r => by simp [intsU, ints_map f r]
def allR (o : Option (List Bool)) (h : AH) : R U := match o with
      | some bs => .ok (.bl (bs.all id)) h
      | none => .bad
theorem bi_all {n} : evBI .all [.ref n] h = allR ((lstAt h n).bind bools) h := rfl
theorem allR_ok {bs} : allR (some bs) h = .ok (.bl (bs.all id)) h := rfl
end
end Ev
namespace Ev
def startR : List U → Nat → Env
  | [], k => List.replicate k none
  | u :: us, k => some u :: startR us k
theorem start_eq {n us} : start n us = startR us (n - us.length) := by
  unfold start
  suffices H : ∀ (us : List U) k, us.map some ++ List.replicate k none = startR us k from H us _
  intro us
  induction us with
  | nil => intro k; simp [startR]
  | cons u us ih => intro k; simp [startR, ih k]
theorem startR_nil {k} : startR [] k = List.replicate k none := rfl
theorem startR_cons {u us k} : startR (u :: us) k = some u :: startR us k := rfl
end Ev
namespace Ev
variable {h : AH}
theorem in_ref {u n} : inU h u (.ref n) = (match lstAt h n with
    | some xs => anyEq h u xs
    | none => match dicAt h n, keyOf u with
      | some kvs, some k => some (valD kvs k).isSome
      | _, _ => none) := rfl
theorem sIx_none {n d} : sIx n d none = d := rfl
theorem cut_one {α : Type} {x : α} {xs : List α} : cut (x :: xs) (some 1) none = xs := by
  simp [cut, sIx]
end Ev
namespace Ev
theorem app_at {h j : AH} {k : Nat} : (h ++ j)[h.length + k]? = j[k]? := by rw [List.getElem?_append_right (by omega)]; congr 1; omega
theorem app_at0 {h j : AH} : (h ++ j)[h.length]? = j[0]? := by rw [List.getElem?_append_right (by omega)]; congr 1; omega
theorem set_at {h j : AH} {k : Nat} {x} : (h ++ j).set (h.length + k) x = h ++ j.set k x := by rw [List.set_append_right _ _ (by omega)]; congr 2; omega
theorem set_at0 {h j : AH} {x} : (h ++ j).set h.length x = h ++ j.set 0 x := by rw [List.set_append_right _ _ (by omega)]; congr 2; omega
end Ev
namespace Ev
variable {h : AH}
theorem eq_ref {a b} : eqU h (.ref a) (.ref b) = (match lstAt h a, lstAt h b with
      | some xs, some ys => if xs.length = ys.length then allEq (sameOr (eqTop 11 h)) xs ys else some false
      | _, _ => none) := rfl
theorem ae_nil {f ys} : allEq f [] ys = some true := rfl
end Ev
namespace Ev
theorem lo_ref {h : AH} {n} : lstOf h (.ref n) = lstAt h n := rfl
end Ev
namespace Ev
section
variable {h : AH} {e : Env} {nx : Env → AH → Prop} {rt : U → AH → Prop} {xc : Nat → List U → Env → AH → Prop} {bk ct : Env → AH → Prop}
theorem afldR_br {b f v n c fs} (k : fs.length < 900) : F.post (afldR b f e v n h (some (c, fs))) nx rt xc bk ct = Br (nx e (h.set n (.ins c (putF f v fs)))) False (b c) := by
  unfold afldR
  cases q : b c
  · dsimp only; rw [q, if_neg (by simp), Br.f, F.post_bad]
  · dsimp only; rw [q, if_pos ⟨rfl, k⟩, Br.t, F.post_nx]
theorem fldO_br {b f c fs} {P : U → Prop} : PostO (fldO b f (some (c, fs))) P = Br (PostO (lookF fs f) P) False (b c) := by
  unfold fldO
  cases q : b c
  · dsimp only; rw [q, if_neg (by simp), Br.f, PostO.none]
  · dsimp only; rw [q, if_pos rfl, Br.t]
theorem lookF_cons {f g v fs} : lookF ((g, v) :: fs) f = if g == f then some v else lookF fs f := by
  unfold lookF
  rw [List.find?_cons]
  cases g == f <;> rfl
end
end Ev
namespace Ev
theorem app_sat {h j : AH} {s k : Nat} {o} : (h.set s o ++ j)[h.length + k]? = j[k]? := by rw [List.getElem?_append_right (by simp)]; congr 1; simp
theorem app_sat0 {h j : AH} {s : Nat} {o} : (h.set s o ++ j)[h.length]? = j[0]? := by rw [List.getElem?_append_right (by simp)]; congr 1; simp
theorem set_sat {h j : AH} {s k : Nat} {o x} : (h.set s o ++ j).set (h.length + k) x = h.set s o ++ j.set k x := by rw [List.set_append_right _ _ (by simp)]; congr 2; simp
theorem set_sat0 {h j : AH} {s : Nat} {o x} : (h.set s o ++ j).set h.length x = h.set s o ++ j.set 0 x := by rw [List.set_append_right _ _ (by simp)]; congr 2; simp
theorem putD_len {kvs : List (DK × U)} {k : DK} {v : U} : (putD kvs k v).length ≤ kvs.length + 1 := by
  unfold putD; split <;> simp
end Ev
namespace Ev
section
variable {Γ : Tab} {Φ : Nat → List U → AH → R U} {h : AH} {e : Env} {nx : Env → AH → Prop} {rt : U → AH → Prop} {xc : Nat → List U → Env → AH → Prop} {bk ct : Env → AH → Prop}
theorem q_unlock {n o r} : F.post (F.unlock n o r) nx rt xc bk ct = F.post r (fun e h => nx e (h.set n o)) (fun u h => rt u (h.set n o)) (fun _ _ _ _ => False) (fun _ _ => False) (fun _ _ => False) := by
  cases r <;> simp [F.unlock]
def forLk (Γ : Tab) (Φ : Nat → List U → AH → R U) (p : P) (b : S) (e : Env) (items : List U) (n : Nat) (h1 : AH) (o : Option (List (DK × U))) : F :=
  match o with
      | some kvs => F.unlock n (.dic kvs) (forL (fun _ => true) (forB Γ Φ p b) items e (h1.set n (.frz (.dic kvs))))
      | none => .bad
theorem forR_lk {p b items gd n} : forR Γ Φ p b e ⟨items, gd, some n⟩ h = forLk Γ Φ p b e items n h (dicW h n) := rfl
theorem forLk_ok {p b items n kvs} : F.post (forLk Γ Φ p b e items n h (some kvs)) nx rt xc bk ct = F.post (forL (fun _ => true) (forB Γ Φ p b) items e (h.set n (.frz (.dic kvs)))) (fun e h => nx e (h.set n (.dic kvs))) (fun u h => rt u (h.set n (.dic kvs))) (fun _ _ _ _ => False) (fun _ _ => False) (fun _ _ => False) := q_unlock
def itD (n : Nat) (h : AH) (f : List (DK × U) → List U) (o : Option (List (DK × U))) : R Its :=
  match o with
  | some kvs => .ok ⟨f kvs, [], some n⟩ h
  | none => .bad
theorem w_vals {n} : itVals (.ref n) h = itD n h (fun kvs => kvs.map (·.2)) (dicW h n) := by
  show (match dicW h n with | some xs => _ | none => _) = _
  cases dicW h n <;> rfl
theorem w_keys {n} : itKeys (.ref n) h = itD n h keysU (dicW h n) := by
  show (match dicW h n with | some xs => _ | none => _) = _
  cases dicW h n <;> rfl
theorem w_items {n} : itItems (.ref n) h = itD n h (fun kvs => kvs.map fun kv => .tup [keyU kv.1, kv.2]) (dicW h n) := by
  show (match dicW h n with | some xs => _ | none => _) = _
  cases dicW h n <;> rfl
theorem itD_ok {n f kvs} : itD n h f (some kvs) = .ok ⟨f kvs, [], some n⟩ h := rfl
theorem set_same {n o} (k : h[n]? = some o) : h.set n o = h := by
  apply List.ext_getElem?; intro i
  by_cases q : n = i
  · subst q; rw [List.getElem?_set_self (lt_of_at k), k]
  · rw [List.getElem?_set_ne q]
def tvR (h : AH) (o : Option (List (DK × U))) : R U := match o with
      | some kvs => .ok (.tup (kvs.map (·.2))) h
      | none => .bad
theorem bi_tupvals {n} : evBI .tupvals [.ref n] h = tvR h (dicAt h n) := rfl
theorem tvR_ok {kvs} : tvR h (some kvs) = .ok (.tup (kvs.map (·.2))) h := rfl
def skR (h : AH) (j : Nat) (o : Option (List U)) : R U := match o with
      | some xs => match keysAt j xs with
        | some ks => newL h ((sortBy (fun a b => decide (a.1 ≤ b.1)) (ks.zip xs)).map (·.2))
        | none => .bad
      | none => .bad
theorem bi_sk {j n} : evBI (.sortedk j) [.ref n] h = skR h j (lstAt h n) := rfl
end
end Ev
namespace Ev
section
variable {h : AH}
def jnR (z : List Nat) (h : AH) (o : Option (List (List Nat))) : R U := match o with
      | some xs => if (xs.map List.length).sum + xs.length * z.length ≤ lim then .ok (.str (joinS z xs)) h else .bad
      | none => .bad
theorem bm_join {z n} : evBM .join (.str z) [.ref n] h = jnR z h ((lstAt h n).bind strsU) := rfl
theorem jnR_ok {z xs} (k : (xs.map List.length).sum + xs.length * z.length ≤ 100000) : jnR z h (some xs) = .ok (.str (joinS z xs)) h := if_pos k
theorem joinS_nil : ∀ xs : List (List Nat), joinS [] xs = xs.flatten
  | [] => rfl
  | [x] => by simp [joinS]
  | x :: y :: r => by simp [joinS, joinS_nil (y :: r)]
theorem flat_one : ∀ cs : List Nat, (cs.map fun c => [c]).flatten = cs
  | [] => rfl
  | c :: r => by rw [List.map_cons, List.flatten_cons, flat_one r]; rfl
theorem sum_one : ∀ cs : List Nat, ((cs.map fun c => [c]).map List.length).sum = cs.length
  | [] => rfl
  | c :: r => by simp only [List.map_cons, List.sum_cons, sum_one r, List.length_cons, List.length_nil]; omega
theorem jn_one {cs : List Nat} (k : cs.length ≤ 100000) : jnR [] h (some (cs.map fun c => [c])) = .ok (.str cs) h := by
  rw [jnR_ok (by rw [sum_one]; simpa using k), joinS_nil, flat_one]
theorem b_pow18 : evBin .pow (.int 10) (.int 18) h = .ok (.int 1000000000000000000) h := by simp [evBin]
theorem b_pow29 : evBin .pow (.int 10) (.int 29) h = .ok (.int 100000000000000000000000000000) h := by simp [evBin]
theorem lstW_at {n xs} (k : lstW h n = some xs) : h[n]? = some (.lst xs) := by
  unfold lstW at k; split at k
  · rename_i z; cases k; exact z
  · cases k
theorem posto_pick {xs : List U} {d : Int} {P : U → Prop} (h0 : 0 ≤ d) (h1 : d < xs.length) (k : ∀ x ∈ xs, P x) : PostO xs[d.toNat]? P := by
  have : d.toNat < xs.length := by omega
  rw [List.getElem?_eq_getElem this, PostO.some]
  exact k _ (List.getElem_mem _)
/-- the box that draws are made of -/
def isBox (h : AH) (b : Nat) : Prop := ∃ a s c : Int, h[b]? = some (.lst [.int a, .int s, .int c])
theorem isBox.lt {h : AH} {b : Nat} (k : isBox h b) : b < h.length := by obtain ⟨a, s, c, e⟩ := k; exact lt_of_at e
theorem isBox.app {h j : AH} {b : Nat} (k : isBox h b) : isBox (h ++ j) b := by
  have := k.lt
  obtain ⟨a, s, c, e⟩ := k
  exact ⟨a, s, c, by rw [List.getElem?_append_left this, e]⟩
theorem isBox.set {h : AH} {b n : Nat} {o} (k : isBox h b) (q : b ≠ n) : isBox (h.set n o) b := by
  obtain ⟨a, s, c, e⟩ := k
  exact ⟨a, s, c, by rw [List.getElem?_set_ne (fun z => q z.symm), e]⟩
theorem Kp.new {h h' : AH} {o} {b : Nat} (k : Kp [b] (h ++ [o]) h') (q : isBox h b) : h'[h.length]? = some o := k.get (by simp) (by have := q.lt; simp; omega)
end
end Ev
namespace Ev
section
variable {h : AH}
theorem anyEq_strs {α : Type} {s : List Nat} {f : α → List Nat} (l : List α) : anyEq h (.str s) (l.map fun x => .str (f x)) = some (decide (s ∈ l.map f)) := by
  have h1 : (l.map fun x => U.str (f x)).all flatU = true := by simp [flatU]
  unfold anyEq
  rw [h1]
  simp only [flatU, Bool.and_self, if_true, Option.some.injEq]
  rw [Bool.eq_iff_iff]
  simp [eqFlat]
def lsR (h : AH) (o : Option (List (List Nat))) : R U := match o with
      | some xs => if xs.length ≤ 4000 then .ok (.int (firsts xs).length) h else .bad
      | none => .bad
theorem bi_lenset {n} : evBI .lenset [.ref n] h = lsR h ((lstAt h n).bind strsU) := rfl
theorem lsR_ok {xs} (k : xs.length ≤ 4000) : lsR h (some xs) = .ok (.int (firsts xs).length) h := if_pos k
end
end Ev
namespace Ev
section
variable {Γ : Tab} {Φ : Nat → List U → AH → R U} {h : AH} {e : Env} {nx : Env → AH → Prop} {rt : U → AH → Prop} {xc : Nat → List U → Env → AH → Prop} {bk ct : Env → AH → Prop}
theorem q_hd {k i b r c xs} : F.post (evH Γ Φ (.cons (.hd k (some i) b) r) c xs e h) nx rt xc bk ct = Br (F.post (evS Γ Φ b (e.set i (some (.exc c xs))) h) (fun e1 h1 => nx (e1.set i none) h1) (fun _ _ => False) (fun _ _ _ _ => False) (fun _ _ => False) (fun _ _ => False)) (F.post (evH Γ Φ r c xs e h) nx rt xc bk ct) (Γ.sub c k) := by
  rw [evH.eq_1]; simp only [evHd]
  cases Γ.sub c k
  · rw [Br.f]; rfl
  · rw [Br.t]
    rw [if_pos rfl]
    cases evS Γ Φ b (e.set i (some (.exc c xs))) h <;> simp
theorem q_hd0 {k b r c xs} : F.post (evH Γ Φ (.cons (.hd k none b) r) c xs e h) nx rt xc bk ct = Br (F.post (evS Γ Φ b e h) nx (fun _ _ => False) (fun _ _ _ _ => False) (fun _ _ => False) (fun _ _ => False)) (F.post (evH Γ Φ r c xs e h) nx rt xc bk ct) (Γ.sub c k) := by
  rw [evH.eq_1]; simp only [evHd]
  cases Γ.sub c k
  · rw [Br.f]; rfl
  · rw [Br.t]
    rw [if_pos rfl]
    cases evS Γ Φ b e h <;> simp
theorem q_hdn {c xs} : F.post (evH Γ Φ .nil c xs e h) nx rt xc bk ct = xc c xs e h := by
  rw [evH.eq_2, F.post_exc]
theorem fld_exc {c xs f} : evFld Γ (.exc c xs) f h = fnd f (Γ.xf c) xs := rfl
theorem fnd_cons {f a r x xs} : fnd f (a :: r) (x :: xs) = if a = f then some x else fnd f r xs := rfl
theorem eq_bb {a b} : eqU h (.bl a) (.bl b) = some (a == b) := rfl
theorem eq_tt {xs ys} : eqU h (.tup xs) (.tup ys) = (allEq (sameOr (eqTop 11 h)) xs ys).map fun b => b && xs.length == ys.length := rfl
theorem ae_cons {f x xs y ys} : allEq f (x :: xs) (y :: ys) = match f x y, allEq f xs ys with
    | some a, some b => some (a && b)
    | _, _ => none := rfl
theorem so_ss {n a b} : sameOr (eqTop (n+1) h) (.str a) (.str b) = some (decide (a = b)) := by
  show eqTop (n+1) h (.str a) (.str b) = _
  show some (a == b) = _
  congr 1
  by_cases k : a = b
  · subst k; simp
  · rw [decide_eq_false k]; simpa using k
theorem so_ii {n a b} : sameOr (eqTop (n+1) h) (.int a) (.int b) = some (decide (a = b)) := rfl
theorem so_nn {n} : sameOr (eqTop (n+1) h) .non .non = some true := rfl
theorem so_nt {n xs} : sameOr (eqTop (n+1) h) .non (.tup xs) = some false := rfl
theorem so_tn {n xs} : sameOr (eqTop (n+1) h) (.tup xs) .non = some false := rfl
theorem so_tt {n xs ys} : sameOr (eqTop (n+1) h) (.tup xs) (.tup ys) = (allEq (sameOr (eqTop n h)) xs ys).map fun b => b && xs.length == ys.length := rfl
theorem so_rr {f a} : sameOr f (.ref a) (.ref a) = some true := by simp [sameOr]
theorem ae_strs {n : Nat} : ∀ l : List (List Nat), allEq (sameOr (eqTop (n+1) h)) (l.map .str) (l.map .str) = some true
  | [] => rfl
  | x :: l => by rw [List.map_cons, ae_cons, ae_strs l, so_ss]; simp
theorem cut_last {α : Type} {xs : List α} {x : α} : cut (xs ++ [x]) none (some (-1)) = xs := by
  have e1 : sIx (xs ++ [x]).length (xs ++ [x]).length (some (-1)) = xs.length := by
    show (if (-1 : Int) < 0 then ((-1 : Int) + ((xs ++ [x]).length : Int)).toNat else min (-1 : Int).toNat (xs ++ [x]).length) = xs.length
    rw [if_pos (by omega), List.length_append]
    simp only [List.length_cons, List.length_nil]
    omega
  unfold cut
  rw [e1]
  simp [sIx]
theorem q_whole {r : R U} {Q : U → AH → Prop} {X} {v : U} {h : AH} (e : r = .ok v h) : Post r Q X = Q v h := by rw [e, Post.ok]
end
end Ev
namespace Ev
section
variable {Γ : Tab} {Φ : Nat → List U → AH → R U} {h : AH} {e : Env}
def dicR1 (n : Nat) (v : U) (h : AH) (o : Option DK) (p : Option (List (DK × U))) : R U :=
  match o, p with
      | some k, some [] => .ok (.ref n) (h.set n (.dic [(k, v)]))
      | _, _ => .bad
theorem dicR1_ok {n v k} : dicR1 n v h (some k) (some []) = .ok (.ref n) (h.set n (.dic [(k, v)])) := rfl
theorem q_dic1 {a b : E} {Q : U → AH → Prop} {X} : Post (evE Γ Φ (.dic (.cons a .nil) (.cons b .nil)) e h) Q X = Post (evE Γ Φ a e (h ++ [.dic []])) (fun k h1 => Post (evE Γ Φ b e h1) (fun v h2 => Post (dicR1 h.length v h2 (keyOf k) (dicW h2 h.length)) Q X) X) X := by
  rw [e_dic, Post.bind, q_es_cons]
  congr; funext k h1
  rw [q_es_nil, Post.bind, q_es_cons]
  congr; funext v h2
  rw [q_es_nil]
  rfl
end
end Ev
namespace Ev
section
variable {Γ : Tab} {Φ : Nat → List U → AH → R U} {h : AH}
/-- a comprehension whose turns make new things -/
theorem lc_call {α : Type} {a p c e0 its X} {Q : U → AH → Prop} (l : List α) (f v : α → U) (hi : its.items = l.map f) (k : its.lk = none) (hg : ∀ j, gdB (h ++ j) its.gd = true) (hl : l.length ≤ 100000)
    (st : ∀ x ∈ l, ∀ j, Post (lcF Γ Φ a p c e0 (f x) (h ++ j)) (fun o h' => o = some (v x) ∧ ∃ j', h' = h ++ (j ++ j')) nox)
    (w : ∀ j, Q (.ref h.length) (h ++ (.lst (l.map v) :: j))) : Post (lcR Γ Φ a p c e0 its h) Q X := by
  refine lcR_ok k ?_
  refine lcL_post (fun pre out h' => ∃ j, h' = h ++ (.lst out :: j) ∧ out = (l.take pre.length).map v) ⟨[], rfl, by simp⟩ (by simp [lstW]) ?_ ?_
  · rintro pre u rest out h' hsp ⟨j, rfl, rfl⟩ hw
    rw [hi] at hsp
    have h1 := congrArg List.length hsp
    simp at h1
    have h2 : (l.map f)[pre.length]? = some u := by rw [hsp]; simp
    rw [List.getElem?_map] at h2
    obtain ⟨x, hx, rfl⟩ := Option.map_eq_some_iff.mp h2
    refine ⟨hg _, ?_⟩
    refine Post.mono (st x (List.mem_of_getElem? hx) _) ?_ (fun _ _ _ k => k)
    rintro o h' ⟨rfl, j', rfl⟩
    refine ⟨by simp [lstW], by show _ < 100000; simp; omega, j ++ j', by simp, ?_⟩
    have et : l.take (pre.length + 1) = l.take pre.length ++ [x] := by rw [List.take_add_one, hx]; rfl
    simp [et]
  · rintro out h' ⟨j, rfl, rfl⟩ hw
    refine ⟨hg _, ?_⟩
    have e : (l.take its.items.length).map v = l.map v := by rw [hi, List.length_map, List.take_length]
    rw [e]
    exact w j
end
theorem bm_split {z c h} (k : z.length + 2 ≤ 100000 ∧ c < 256) : evBM .split (.str z) [.str [c]] h = .ok (.ref h.length) (h ++ [.lst ((splitS c [] z).map U.str)]) := if_pos k
theorem bi_intb {b h} : evBI .int [.bl b] h = .ok (.int (b2i b)) h := rfl
theorem gd_atk {h j : AH} {k : Nat} {xs} (e : j[k]? = some (.lst xs)) : gdB (h ++ j) [(h.length + k, xs)] = true := gd_one (by simp only [l_at, app_at, e])
theorem gd_at00 {h j : AH} {xs} (e : j[0]? = some (.lst xs)) : gdB (h ++ j) [(h.length, xs)] = true := gd_one (by simp only [l_at, app_at0, e])
theorem cut_take {α : Type} {xs : List α} {k : Nat} (h : k ≤ xs.length) : cut xs none (some (k : Int)) = xs.take k := by
  unfold cut
  rw [show sIx xs.length 0 none = 0 from rfl, List.drop_zero, Nat.sub_zero]
  congr 1
  show (if (k : Int) < 0 then ((k : Int) + (xs.length : Int)).toNat else min (k : Int).toNat xs.length) = k
  rw [if_neg (by omega)]
  omega
theorem cut_drop {α : Type} {xs : List α} {k : Nat} (h : k ≤ xs.length) : cut xs (some (k : Int)) none = xs.drop k := by
  unfold cut
  have e : sIx xs.length 0 (some (k : Int)) = k := by
    show (if (k : Int) < 0 then ((k : Int) + (xs.length : Int)).toNat else min (k : Int).toNat xs.length) = k
    rw [if_neg (by omega)]
    omega
  rw [e, show sIx xs.length xs.length none = xs.length from rfl, List.take_of_length_le (by simp)]
/-! texts cut at a sign -/
theorem splitS_ne (c : Nat) : ∀ (z acc : List Nat), splitS c acc z ≠ []
  | [], acc => by simp [splitS]
  | x :: r, acc => by
    unfold splitS
    split
    · simp
    · exact splitS_ne c r _
theorem splitS_sum (c : Nat) : ∀ (z acc : List Nat), ((splitS c acc z).map List.length).sum + (splitS c acc z).length = acc.length + z.length + 1
  | [], acc => by simp [splitS]
  | x :: r, acc => by
    unfold splitS
    split
    · have := splitS_sum c r []
      simp at this ⊢; omega
    · have := splitS_sum c r (acc ++ [x])
      simp at this ⊢; omega
theorem mem_len {l : List (List Nat)} {s : List Nat} (h : s ∈ l) : s.length ≤ (l.map List.length).sum := by
  induction l with
  | nil => cases h
  | cons x l ih =>
    simp only [List.map_cons, List.sum_cons]
    rcases List.mem_cons.mp h with rfl | h
    · omega
    · have := ih h; omega
theorem splitS_mem {c : Nat} {z s : List Nat} (h : s ∈ splitS c [] z) : s.length ≤ z.length := by
  have h1 := splitS_sum c z []
  have h2 := mem_len h
  have h3 : 0 < (splitS c [] z).length := List.length_pos_of_mem h
  simp at h1
  omega
theorem splitS_len {c : Nat} {z : List Nat} : (splitS c [] z).length ≤ z.length + 1 := by
  have h1 := splitS_sum c z []
  simp at h1
  omega
theorem splitS_plain (c : Nat) : ∀ (z acc r : List Nat), c ∉ z → splitS c acc (z ++ c :: r) = (acc ++ z) :: splitS c [] r
  | [], acc, r, _ => by simp [splitS]
  | x :: z, acc, r, h => by
    have hx : ¬ x = c := fun e => h (by simp [e])
    simp only [List.cons_append, splitS, if_neg hx]
    rw [splitS_plain c z (acc ++ [x]) r (fun e => h (by simp [e]))]
    simp
theorem splitS_last (c : Nat) : ∀ (z acc : List Nat), c ∉ z → splitS c acc z = [acc ++ z]
  | [], acc, _ => by simp [splitS]
  | x :: z, acc, h => by
    have hx : ¬ x = c := fun e => h (by simp [e])
    simp only [splitS, if_neg hx]
    rw [splitS_last c z (acc ++ [x]) (fun e => h (by simp [e]))]
    simp
theorem splitS_join (c : Nat) : ∀ (l : List (List Nat)), l ≠ [] → (∀ z ∈ l, c ∉ z) → splitS c [] (joinS [c] l) = l
  | [], h, _ => absurd rfl h
  | [z], _, h => by
    show splitS c [] z = [z]
    rw [splitS_last c z [] (h z (by simp))]; rfl
  | z :: y :: l, _, h => by
    have ih := splitS_join c (y :: l) (by simp) (fun w hw => h w (by simp [hw]))
    show splitS c [] (z ++ [c] ++ joinS [c] (y :: l)) = _
    rw [List.append_assoc, List.singleton_append, splitS_plain c z [] _ (h z (by simp)), ih]; rfl
theorem joinS_len (c : Nat) : ∀ (l : List (List Nat)), (joinS [c] l).length ≤ (l.map List.length).sum + l.length
  | [] => by simp [joinS]
  | [z] => by simp [joinS]
  | z :: y :: l => by
    have := joinS_len c (y :: l)
    simp only [joinS, List.length_append, List.map_cons, List.sum_cons, List.length_cons, List.length_nil] at this ⊢
    omega
end Ev
namespace Ev
theorem lc_callH {Γ : Tab} {Φ : Nat → List U → AH → R U} {h : AH} {α : Type} {a p c e0 its X} {Q : U → AH → Prop} (l : List α) (f v : α → U) (hi : its.items = l.map f) (k : its.lk = none) (hg : ∀ j, gdB (h ++ j) its.gd = true) (hl : l.length ≤ 100000)
    (st : ∀ x ∈ l, ∀ j, Post (lcF Γ Φ a p c e0 (f x) (h ++ j)) (fun o h' => o = some (v x) ∧ ∃ j', h' = h ++ (j ++ j')) nox)
    (w : ∀ H j, H = h ++ (.lst (l.map v) :: j) → Q (.ref h.length) H) : Post (lcR Γ Φ a p c e0 its h) Q X := lc_call l f v hi k hg hl st fun j => w _ j rfl
end Ev
namespace Ev
theorem ext2 {h h1 H J : AH} (a : ∃ j, h1 = h ++ j) (b : H = h1 ++ J) : ∃ j, H = h ++ j := by
  obtain ⟨j, rfl⟩ := a
  exact ⟨j ++ J, by rw [b, List.append_assoc]⟩
end Ev
namespace Ev
theorem sInt_nat (n : Nat) : sInt (n : Nat) = (Nat.toDigits 10 n).map Char.toNat := by
  unfold sInt
  have : (toString (n : Int)) = Nat.repr n := rfl
  rw [this, Nat.repr_eq_ofList_toDigits, String.toList_ofList]
theorem dig_char : ∀ d < 10, (Nat.digitChar d).toNat = 48 + d := by decide
theorem sInt_dig (n : Nat) : sInt (n : Nat) = if n < 10 then [48 + n] else sInt ((n / 10 : Nat) : Int) ++ [48 + n % 10] := by
  rw [sInt_nat, Nat.toDigits_eq_if (by decide)]
  split
  · simp [dig_char n (by assumption)]
  · rw [List.map_append, sInt_nat]
    simp [dig_char (n % 10) (Nat.mod_lt _ (by decide))]
end Ev
namespace Ev
def S.tk : Nat → S → S
  | 0, _ => .nil
  | k + 1, .cons a r => .cons a (S.tk k r)
  | _ + 1, _ => .nil
def S.dr : Nat → S → S
  | 0, s => s
  | k + 1, .cons _ r => S.dr k r
  | _ + 1, s => s
theorem tk_0 {s} : S.tk 0 s = .nil := rfl
theorem tk_s {k a r} : S.tk (k + 1) (.cons a r) = .cons a (S.tk k r) := rfl
theorem dr_0 {s} : S.dr 0 s = s := by cases s <;> rfl
theorem dr_s {k a r} : S.dr (k + 1) (.cons a r) = S.dr k r := rfl
/-- a suite in two parts, with what stands between -/
theorem cutAt {Γ : Tab} {Φ : Nat → List U → AH → R U} {nx : Env → AH → Prop} {rt : U → AH → Prop} {xc : Nat → List U → Env → AH → Prop} {bk ct : Env → AH → Prop} (I : Env → AH → Prop) :
    ∀ (k : Nat) {s : S} {e h}, F.post (evS Γ Φ (S.tk k s) e h) I rt xc bk ct → (∀ e h, I e h → F.post (evS Γ Φ (S.dr k s) e h) nx rt xc bk ct) → F.post (evS Γ Φ s e h) nx rt xc bk ct
  | 0, s, e, h, p, q => by
    rw [tk_0, q_nil] at p
    have := q e h p
    rwa [dr_0] at this
  | k + 1, .cons a r, e, h, p, q => by
    rw [tk_s, q_cons] at p
    rw [q_cons]
    refine F.post.mono p (fun e1 h1 p1 => ?_) (fun _ _ k => k) (fun _ _ _ _ k => k) (fun _ _ k => k) (fun _ _ k => k)
    exact cutAt I k p1 q
  | k + 1, .nil, e, h, p, q => by rw [show S.tk (k+1) .nil = .nil from rfl, q_nil] at p; exact q e h p
  | k + 1, .asg _ _, e, h, p, q => by rw [show ∀ a b, S.tk (k+1) (.asg a b) = .nil from fun _ _ => rfl, q_nil] at p; exact q e h p
  | k + 1, .asub _ _ _, e, h, p, q => by rw [show ∀ a b c, S.tk (k+1) (.asub a b c) = .nil from fun _ _ _ => rfl, q_nil] at p; exact q e h p
  | k + 1, .afld _ _ _, e, h, p, q => by rw [show ∀ a b c, S.tk (k+1) (.afld a b c) = .nil from fun _ _ _ => rfl, q_nil] at p; exact q e h p
  | k + 1, .aug _ _ _, e, h, p, q => by rw [show ∀ a b c, S.tk (k+1) (.aug a b c) = .nil from fun _ _ _ => rfl, q_nil] at p; exact q e h p
  | k + 1, .augsub _ _ _ _, e, h, p, q => by rw [show ∀ a b c d, S.tk (k+1) (.augsub a b c d) = .nil from fun _ _ _ _ => rfl, q_nil] at p; exact q e h p
  | k + 1, .augfld _ _ _ _, e, h, p, q => by rw [show ∀ a b c d, S.tk (k+1) (.augfld a b c d) = .nil from fun _ _ _ _ => rfl, q_nil] at p; exact q e h p
  | k + 1, .ex _, e, h, p, q => by rw [show ∀ a, S.tk (k+1) (.ex a) = .nil from fun _ => rfl, q_nil] at p; exact q e h p
  | k + 1, .ret _, e, h, p, q => by rw [show ∀ a, S.tk (k+1) (.ret a) = .nil from fun _ => rfl, q_nil] at p; exact q e h p
  | k + 1, .ret0, e, h, p, q => by rw [show S.tk (k+1) .ret0 = .nil from rfl, q_nil] at p; exact q e h p
  | k + 1, .ifs _ _ _, e, h, p, q => by rw [show ∀ a b c, S.tk (k+1) (.ifs a b c) = .nil from fun _ _ _ => rfl, q_nil] at p; exact q e h p
  | k + 1, .for _ _ _, e, h, p, q => by rw [show ∀ a b c, S.tk (k+1) (.for a b c) = .nil from fun _ _ _ => rfl, q_nil] at p; exact q e h p
  | k + 1, .whl _ _, e, h, p, q => by rw [show ∀ a b, S.tk (k+1) (.whl a b) = .nil from fun _ _ => rfl, q_nil] at p; exact q e h p
  | k + 1, .rai _ _, e, h, p, q => by rw [show ∀ a b, S.tk (k+1) (.rai a b) = .nil from fun _ _ => rfl, q_nil] at p; exact q e h p
  | k + 1, .tri _ _, e, h, p, q => by rw [show ∀ a b, S.tk (k+1) (.tri a b) = .nil from fun _ _ => rfl, q_nil] at p; exact q e h p
  | k + 1, .hd _ _ _, e, h, p, q => by rw [show ∀ a b c, S.tk (k+1) (.hd a b c) = .nil from fun _ _ _ => rfl, q_nil] at p; exact q e h p
  | k + 1, .brk, e, h, p, q => by rw [show S.tk (k+1) .brk = .nil from rfl, q_nil] at p; exact q e h p
  | k + 1, .cnt, e, h, p, q => by rw [show S.tk (k+1) .cnt = .nil from rfl, q_nil] at p; exact q e h p
  | k + 1, .pas, e, h, p, q => by rw [show S.tk (k+1) .pas = .nil from rfl, q_nil] at p; exact q e h p
end Ev
namespace Ev
theorem sl_str {z lo hi h} (k : z.length ≤ 100000) : evSl (.str z) lo hi h = .ok (.str (cut z lo hi)) h := if_pos k
end Ev
namespace K78
open Ev
/-- 0: _wall (k) -/
def b0 : S := (.cons (.whl (.con (.bl true)) (.cons .pas .nil)) .nil)
def f0 : Fn := ⟨1, 1, b0⟩
/-- 1: is_whole (thing) -/
def b1 : S := (.cons (.ret (.and (.cons (.isi (.var 0) [.int]) (.cons (.not (.isi (.var 0) [.bool])) .nil)))) .nil)
def f1 : Fn := ⟨1, 1, b1⟩
/-- 2: is_within (thing, low, high) -/
def b2 : S := (.cons (.ret (.and (.cons (.call 1 (.cons (.var 0) .nil)) (.cons (.chain .le .le (.var 1) (.var 0) (.var 2)) .nil)))) .nil)
def f2 : Fn := ⟨3, 3, b2⟩
/-- 3: is_name (thing, sign) -/
def b3 : S := (.cons (.ifs (.or (.cons (.not (.isi (.var 0) [.str])) (.cons (.not (.chain .le .le (.con (.int 1)) (.bi .len (.cons (.var 0) .nil)) (.glb 2))) (.cons (.cmp .nin (.ix (.var 0) (.con (.int 0))) (.glb 1)) .nil)))) (.cons (.ret (.con (.bl false))) .nil) .nil) (.cons (.ret (.bi .all (.cons (.lc (.cmp .inn (.var 1) (.bin .add (.glb 1) (.glb 0))) (.name 1) (.iseq (.var 0)) .nil [1]) .nil))) .nil))
def f3 : Fn := ⟨1, 2, b3⟩
/-- 4: number_of (thing, sign) -/
def b4 : S := (.cons (.ifs (.or (.cons (.not (.isi (.var 0) [.str])) (.cons (.not (.chain .le .le (.con (.int 1)) (.bi .len (.cons (.var 0) .nil)) (.glb 3))) .nil))) (.cons (.ret (.con (.non))) .nil) .nil) (.cons (.ifs (.or (.cons (.not (.bi .all (.cons (.lc (.cmp .inn (.var 1) (.glb 0)) (.name 1) (.iseq (.var 0)) .nil [1]) .nil))) (.cons (.and (.cons (.cmp .eq (.ix (.var 0) (.con (.int 0))) (.con (.str [48]))) (.cons (.cmp .ne (.var 0) (.con (.str [48]))) .nil))) .nil))) (.cons (.ret (.con (.non))) .nil) .nil) (.cons (.ret (.bi .int (.cons (.var 0) .nil))) .nil)))
def f4 : Fn := ⟨1, 2, b4⟩
/-- 5: window_fault (row) -/
def b5 : S := (.cons (.ifs (.not (.call 2 (.cons (.ix (.var 0) (.con (.int 1))) (.cons (.con (.int 0)) (.cons (.bin .add (.glb 5) (.con (.int 1))) .nil))))) (.cons (.ret (.con (.str [102, 105, 114, 115, 116]))) .nil) .nil) (.cons (.ifs (.not (.call 2 (.cons (.ix (.var 0) (.con (.int 2))) (.cons (.bi .max (.cons (.con (.int 0)) (.cons (.bin .sub (.ix (.var 0) (.con (.int 1))) (.con (.int 1))) .nil))) (.cons (.glb 5) .nil))))) (.cons (.ret (.con (.str [108, 97, 115, 116]))) .nil) .nil) (.cons (.ifs (.not (.call 2 (.cons (.ix (.var 0) (.con (.int 3))) (.cons (.con (.int 1)) (.cons (.glb 6) .nil))))) (.cons (.ret (.con (.str [108, 101, 110, 103, 116, 104]))) .nil) .nil) (.cons (.ifs (.and (.cons (.cmp .eq (.bi .len (.cons (.var 0) .nil)) (.con (.int 5))) (.cons (.not (.call 2 (.cons (.ix (.var 0) (.con (.int 4))) (.cons (.con (.int 0)) (.cons (.ix (.var 0) (.con (.int 3))) .nil))))) .nil))) (.cons (.ret (.con (.str [108, 101, 102, 116]))) .nil) .nil) (.cons (.ret (.con (.non))) .nil)))))
def f5 : Fn := ⟨1, 1, b5⟩
/-- 6: row_fault (known, row) -/
def b6 : S := (.cons (.ifs (.or (.cons (.not (.isi (.var 1) [.tuple])) (.cons (.not (.chain .le .le (.con (.int 4)) (.bi .len (.cons (.var 1) .nil)) (.con (.int 5)))) .nil))) (.cons (.ret (.con (.str [102, 111, 114, 109]))) .nil) .nil) (.cons (.ifs (.not (.call 3 (.cons (.ix (.var 1) (.con (.int 0))) .nil))) (.cons (.ret (.con (.str [110, 97, 109, 101]))) .nil) .nil) (.cons (.ifs (.cmp .inn (.ix (.var 1) (.con (.int 0))) (.var 0)) (.cons (.ret (.con (.str [100, 111, 117, 98, 108, 101]))) .nil) .nil) (.cons (.ret (.call 5 (.cons (.var 1) .nil))) .nil))))
def f6 : Fn := ⟨2, 2, b6⟩
/-- 7: five_of (row) -/
def b7 : S := (.cons (.ifs (.cmp .eq (.bi .len (.cons (.var 0) .nil)) (.con (.int 4))) (.cons (.ret (.bin .add (.var 0) (.tup (.cons (.ix (.var 0) (.con (.int 3))) .nil)))) .nil) .nil) (.cons (.ret (.var 0)) .nil))
def f7 : Fn := ⟨1, 1, b7⟩
/-- 8: five_rows (rows, found, at, row, why) -/
def b8 : S := (.cons (.ifs (.not (.isi (.var 0) [.list, .tuple])) (.cons (.rai 1 (.cons (.con (.non)) (.cons (.con (.str [102, 111, 114, 109])) .nil))) .nil) .nil) (.cons (.ifs (.cmp .gt (.bi .len (.cons (.var 0) .nil)) (.glb 4)) (.cons (.rai 1 (.cons (.glb 4) (.cons (.con (.str [109, 97, 110, 121])) .nil))) .nil) .nil) (.cons (.asg (.name 1) (.dic .nil .nil)) (.cons (.for (.tup (.cons (.name 2) (.cons (.name 3) .nil))) (.ienum (.var 0)) (.cons (.asg (.name 4) (.call 6 (.cons (.var 1) (.cons (.var 3) .nil)))) (.cons (.ifs (.cmp .isnot (.var 4) (.con (.non))) (.cons (.rai 1 (.cons (.var 2) (.cons (.var 4) .nil))) .nil) .nil) (.cons (.asub (.var 1) (.ix (.var 3) (.con (.int 0))) (.call 7 (.cons (.var 3) .nil))) .nil)))) (.cons (.ret (.var 1)) .nil)))))
def f8 : Fn := ⟨1, 5, b8⟩
/-- 9: Pieces.__init__ (self, rows) -/
def b9 : S := (.cons (.afld (.var 0) 18 (.call 8 (.cons (.var 1) .nil))) .nil)
def f9 : Fn := ⟨2, 2, b9⟩
/-- 10: Pieces.told (self) -/
def b10 : S := (.cons (.ret (.bi .tupvals (.cons (.fld (.var 0) 18) .nil))) .nil)
def f10 : Fn := ⟨1, 1, b10⟩
/-- 11: Pieces.names (self) -/
def b11 : S := (.cons (.ex (.call 0 (.cons (.con (.int 0)) .nil))) .nil)
def f11 : Fn := ⟨1, 1, b11⟩
/-- 12: Pieces.has (self, thing) -/
def b12 : S := (.cons (.ret (.and (.cons (.isi (.var 1) [.str]) (.cons (.cmp .inn (.var 1) (.fld (.var 0) 18)) .nil)))) .nil)
def f12 : Fn := ⟨2, 2, b12⟩
/-- 13: Pieces.row (self, name) -/
def b13 : S := (.cons (.ifs (.not (.meth (.var 0) 6 (.cons (.var 1) .nil))) (.cons (.rai 3 (.cons (.var 1) .nil)) .nil) .nil) (.cons (.ret (.ix (.fld (.var 0) 18) (.var 1))) .nil))
def f13 : Fn := ⟨2, 2, b13⟩
/-- 14: Pieces.with_row (self, row) -/
def b14 : S := (.cons (.ex (.call 0 (.cons (.con (.int 1)) .nil))) .nil)
def f14 : Fn := ⟨2, 2, b14⟩
/-- 15: Pieces.without (self, name) -/
def b15 : S := (.cons (.ex (.call 0 (.cons (.con (.int 2)) .nil))) .nil)
def f15 : Fn := ⟨2, 2, b15⟩
/-- 16: Pieces.put_at (self, name, row) -/
def b16 : S := (.cons (.ex (.call 0 (.cons (.con (.int 3)) .nil))) .nil)
def f16 : Fn := ⟨3, 3, b16⟩
/-- 17: Pieces.with_last (self, name, last) -/
def b17 : S := (.cons (.ex (.call 0 (.cons (.con (.int 4)) .nil))) .nil)
def f17 : Fn := ⟨3, 3, b17⟩
/-- 18: Pieces.with_left (self, name, left) -/
def b18 : S := (.cons (.ex (.call 0 (.cons (.con (.int 5)) .nil))) .nil)
def f18 : Fn := ⟨3, 3, b18⟩
/-- 19: Pieces.since (self, now) -/
def b19 : S := (.cons (.ex (.call 0 (.cons (.con (.int 6)) .nil))) .nil)
def f19 : Fn := ⟨2, 2, b19⟩
/-- 20: pieces_of (row, name, first, window, length, every, times, found, number, start) -/
def b20 : S := (.cons (.asg (.tup (.cons (.name 1) (.cons (.name 2) (.cons (.name 3) (.cons (.name 4) (.cons (.name 5) (.cons (.name 6) .nil))))))) (.var 0)) (.cons (.asg (.name 7) (.lst .nil)) (.cons (.for (.name 8) (.irange1 (.var 6)) (.cons (.asg (.name 9) (.bin .add (.var 2) (.bin .mul (.var 8) (.var 5)))) (.cons (.ex (.bm .append (.var 7) (.cons (.tup (.cons (.bin .add (.var 1) (.bi .str (.cons (.var 8) .nil))) (.cons (.var 9) (.cons (.bin .sub (.bin .add (.var 9) (.var 3)) (.con (.int 1))) (.cons (.var 4) (.cons (.var 4) .nil)))))) .nil))) .nil))) (.cons (.ret (.var 7)) .nil))))
def f20 : Fn := ⟨1, 10, b20⟩
/-- 21: row_fault (known, row, word, low, high, thing) -/
def b21 : S := (.cons (.ifs (.or (.cons (.not (.isi (.var 1) [.tuple])) (.cons (.cmp .ne (.bi .len (.cons (.var 1) .nil)) (.bin .add (.con (.int 1)) (.bi .len (.cons (.glb 8) .nil)))) .nil))) (.cons (.ret (.con (.str [102, 111, 114, 109]))) .nil) .nil) (.cons (.ifs (.or (.cons (.not (.call 3 (.cons (.ix (.var 1) (.con (.int 0))) .nil))) (.cons (.cmp .gt (.bi .len (.cons (.ix (.var 1) (.con (.int 0))) .nil)) (.glb 7)) .nil))) (.cons (.ret (.con (.str [110, 97, 109, 101]))) .nil) .nil) (.cons (.ifs (.cmp .inn (.ix (.var 1) (.con (.int 0))) (.var 0)) (.cons (.ret (.con (.str [100, 111, 117, 98, 108, 101]))) .nil) .nil) (.cons (.for (.tup (.cons (.tup (.cons (.name 2) (.cons (.name 3) (.cons (.name 4) .nil)))) (.cons (.name 5) .nil))) (.izip (.glb 8) (.sl (.var 1) (.cons (.con (.int 1)) .nil) .nil)) (.cons (.ifs (.not (.call 2 (.cons (.var 5) (.cons (.var 3) (.cons (.var 4) .nil))))) (.cons (.ret (.var 2)) .nil) .nil) .nil)) (.cons (.ifs (.cmp .gt (.ix (.ix (.call 20 (.cons (.var 1) .nil)) (.neg (.con (.int 1)))) (.con (.int 2))) (.glb 5)) (.cons (.ret (.con (.str [108, 97, 115, 116]))) .nil) .nil) (.cons (.ret (.con (.non))) .nil))))))
def f21 : Fn := ⟨2, 6, b21⟩
/-- 22: meeting_fault (held, row, fresh, piece, name) -/
def b22 : S := (.cons (.asg (.name 2) (.lc (.ix (.var 3) (.con (.int 0))) (.name 3) (.iseq (.call 20 (.cons (.var 1) .nil))) .nil [3])) (.cons (.ifs (.cmp .ne (.lc (.var 4) (.name 4) (.iseq (.var 2)) (.cons (.cmp .inn (.var 4) (.var 0)) .nil) [4]) (.lst .nil)) (.cons (.ret (.con (.str [109, 101, 101, 116, 115]))) .nil) .nil) (.cons (.ifs (.cmp .gt (.bin .add (.bi .len (.cons (.var 0) .nil)) (.bi .len (.cons (.var 2) .nil))) (.glb 4)) (.cons (.ret (.con (.str [116, 111, 103, 101, 116, 104, 101, 114]))) .nil) .nil) (.cons (.ret (.con (.non))) .nil))))
def f22 : Fn := ⟨2, 5, b22⟩
/-- 23: row_key (piece) -/
def b23 : S := (.cons (.ret (.ix (.var 0) (.con (.int 1)))) .nil)
def f23 : Fn := ⟨1, 1, b23⟩
/-- 24: Series.__init__ (self, rows, at, row, why, number, piece) -/
def b24 : S := (.cons (.ifs (.not (.isi (.var 1) [.list, .tuple])) (.cons (.rai 4 (.cons (.con (.non)) (.cons (.con (.str [102, 111, 114, 109])) .nil))) .nil) .nil) (.cons (.ifs (.cmp .gt (.bi .len (.cons (.var 1) .nil)) (.glb 4)) (.cons (.rai 4 (.cons (.glb 4) (.cons (.con (.str [109, 97, 110, 121])) .nil))) .nil) .nil) (.cons (.afld (.var 0) 20 (.dic .nil .nil)) (.cons (.afld (.var 0) 19 (.dic .nil .nil)) (.cons (.for (.tup (.cons (.name 2) (.cons (.name 3) .nil))) (.ienum (.var 1)) (.cons (.asg (.name 4) (.or (.cons (.call 21 (.cons (.fld (.var 0) 20) (.cons (.var 3) .nil))) (.cons (.call 22 (.cons (.fld (.var 0) 19) (.cons (.var 3) .nil))) .nil)))) (.cons (.ifs (.cmp .isnot (.var 4) (.con (.non))) (.cons (.rai 4 (.cons (.var 2) (.cons (.var 4) .nil))) .nil) .nil) (.cons (.asub (.fld (.var 0) 20) (.ix (.var 3) (.con (.int 0))) (.var 3)) (.cons (.for (.tup (.cons (.name 5) (.cons (.name 6) .nil))) (.ienum (.call 20 (.cons (.var 3) .nil))) (.cons (.asub (.fld (.var 0) 19) (.ix (.var 6) (.con (.int 0))) (.tup (.cons (.ix (.var 3) (.con (.int 0))) (.cons (.var 5) .nil)))) .nil)) .nil))))) .nil)))))
def f24 : Fn := ⟨2, 7, b24⟩
/-- 25: Series.told (self) -/
def b25 : S := (.cons (.ret (.bi .tupvals (.cons (.fld (.var 0) 20) .nil))) .nil)
def f25 : Fn := ⟨1, 1, b25⟩
/-- 26: Series.names (self) -/
def b26 : S := (.cons (.ex (.call 0 (.cons (.con (.int 7)) .nil))) .nil)
def f26 : Fn := ⟨1, 1, b26⟩
/-- 27: Series.row (self, name) -/
def b27 : S := (.cons (.ifs (.or (.cons (.not (.isi (.var 1) [.str])) (.cons (.cmp .nin (.var 1) (.fld (.var 0) 20)) .nil))) (.cons (.rai 3 (.cons (.var 1) .nil)) .nil) .nil) (.cons (.ret (.ix (.fld (.var 0) 20) (.var 1))) .nil))
def f27 : Fn := ⟨2, 2, b27⟩
/-- 28: Series.pieces (self, found, row) -/
def b28 : S := (.cons (.asg (.name 1) (.lst .nil)) (.cons (.for (.name 2) (.ivalues (.fld (.var 0) 20)) (.cons (.ex (.bm .extend (.var 1) (.cons (.call 20 (.cons (.var 2) .nil)) .nil))) .nil)) (.cons (.ret (.mk 5 (.cons (.bi (.sortedk 1) (.cons (.var 1) .nil)) .nil))) .nil)))
def f28 : Fn := ⟨1, 3, b28⟩
/-- 29: Series.begun_at (self, name, turn) -/
def b29 : S := (.cons (.ex (.call 0 (.cons (.con (.int 8)) .nil))) .nil)
def f29 : Fn := ⟨3, 3, b29⟩
/-- 30: Series.whose (self, name) -/
def b30 : S := (.cons (.ex (.call 0 (.cons (.con (.int 9)) .nil))) .nil)
def f30 : Fn := ⟨2, 2, b30⟩
/-- 31: Series.open_at (self, turn) -/
def b31 : S := (.cons (.ex (.call 0 (.cons (.con (.int 10)) .nil))) .nil)
def f31 : Fn := ⟨2, 2, b31⟩
/-- 32: series_row (line, words, numbers, word) -/
def b32 : S := (.cons (.asg (.name 1) (.bm .split (.var 0) (.cons (.con (.str [32])) .nil))) (.cons (.ifs (.or (.cons (.cmp .ne (.bi .len (.cons (.var 1) .nil)) (.glb 9)) (.cons (.not (.call 3 (.cons (.ix (.var 1) (.con (.int 0))) .nil))) .nil))) (.cons (.ret (.con (.non))) .nil) .nil) (.cons (.asg (.name 2) (.lc (.call 4 (.cons (.var 3) .nil)) (.name 3) (.iseq (.sl (.var 1) (.cons (.con (.int 1)) .nil) .nil)) .nil [3])) (.cons (.ifs (.cmp .inn (.con (.non)) (.var 2)) (.cons (.ret (.con (.non))) .nil) .nil) (.cons (.ret (.bi .tuple (.cons (.bin .add (.sl (.var 1) .nil (.cons (.con (.int 1)) .nil)) (.var 2)) .nil))) .nil)))))
def f32 : Fn := ⟨1, 4, b32⟩
/-- 33: read_series (text, rows, found, at, why, e, line) -/
def b33 : S := (.cons (.ifs (.not (.isi (.var 0) [.str])) (.cons (.rai 2 (.cons (.con (.int 0)) (.cons (.con (.str [102, 111, 114, 109])) .nil))) .nil) .nil) (.cons (.asg (.name 1) (.lst .nil)) (.cons (.ifs (.cmp .ne (.var 0) (.con (.str []))) (.cons (.asg (.name 1) (.lc (.call 32 (.cons (.var 6) .nil)) (.name 6) (.iseq (.bm .split (.var 0) (.cons (.con (.str [10])) .nil))) .nil [6])) .nil) .nil) (.cons (.ifs (.cmp .inn (.con (.non)) (.var 1)) (.cons (.rai 2 (.cons (.bm .index (.var 1) (.cons (.con (.non)) .nil)) (.cons (.con (.str [102, 111, 114, 109])) .nil))) .nil) .nil) (.cons (.asg (.name 2) (.con (.non))) (.cons (.asg (.name 3) (.con (.int 0))) (.cons (.asg (.name 4) (.con (.str []))) (.cons (.tri (.cons (.asg (.name 2) (.mk 6 (.cons (.var 1) .nil))) .nil) (.cons (.hd 4 (some 5) (.cons (.asg (.name 3) (.fld (.var 5) 0)) (.cons (.asg (.name 4) (.fld (.var 5) 1)) .nil))) .nil)) (.cons (.ifs (.cmp .is (.var 2) (.con (.non))) (.cons (.rai 2 (.cons (.var 3) (.cons (.var 4) .nil))) .nil) .nil) (.cons (.ret (.var 2)) .nil))))))))))
def f33 : Fn := ⟨1, 7, b33⟩
/-- 34: show_series (series, row, thing) -/
def b34 : S := (.cons (.ret (.bm .join (.con (.str [10])) (.cons (.lc (.bm .join (.con (.str [32])) (.cons (.lc (.bi .str (.cons (.var 2) .nil)) (.name 2) (.iseq (.var 1)) .nil [2]) .nil)) (.name 1) (.iseq (.meth (.var 0) 4 .nil)) .nil [1]) .nil))) .nil)
def f34 : Fn := ⟨1, 3, b34⟩
/-- 35: _law_cell (_law_script, _law_k) -/
def b35 : S := (.cons (.ifs (.cmp .lt (.var 1) (.bi .len (.cons (.var 0) .nil))) (.cons (.ret (.ix (.var 0) (.var 1))) .nil) .nil) (.cons (.ifs (.cmp .eq (.bi .len (.cons (.var 0) .nil)) (.con (.int 0))) (.cons (.ret (.bin .add (.bin .mul (.con (.int 48271)) (.var 1)) (.con (.int 7)))) .nil) .nil) (.cons (.ret (.bin .add (.bin .fdiv (.ix (.var 0) (.bin .mod (.var 1) (.bi .len (.cons (.var 0) .nil)))) (.bin .add (.var 1) (.con (.int 1)))) (.bin .mul (.con (.int 7919)) (.var 1)))) .nil)))
def f35 : Fn := ⟨2, 2, b35⟩
/-- 36: _law_box (_law_cell_here) -/
def b36 : S := (.cons (.ret (.lst (.cons (.bi .max (.cons (.con (.int 0)) (.cons (.bin .sub (.var 0) (.bin .pow (.con (.int 10)) (.con (.int 18)))) .nil))) (.cons (.bin .mod (.var 0) (.con (.int 2147483647))) (.cons (.con (.int 0)) .nil))))) .nil)
def f36 : Fn := ⟨1, 1, b36⟩
/-- 37: _law_take (_law_box_here, _law_many, _law_digit, _law_number_here) -/
def b37 : S := (.cons (.ifs (.cmp .gt (.ix (.var 0) (.con (.int 0))) (.con (.int 0))) (.cons (.asg (.name 2) (.bin .mod (.ix (.var 0) (.con (.int 0))) (.var 1))) (.cons (.asub (.var 0) (.con (.int 0)) (.bin .fdiv (.ix (.var 0) (.con (.int 0))) (.var 1))) (.cons (.ret (.var 2)) .nil))) .nil) (.cons (.asub (.var 0) (.con (.int 2)) (.bin .add (.ix (.var 0) (.con (.int 2))) (.con (.int 1)))) (.cons (.asg (.name 3) (.bin .mod (.bin .add (.bin .add (.bin .mul (.ix (.var 0) (.con (.int 1))) (.con (.int 48271))) (.bin .mul (.con (.int 7919)) (.ix (.var 0) (.con (.int 2))))) (.con (.int 11))) (.con (.int 2147483629)))) (.cons (.asg (.name 3) (.bin .mod (.bin .mul (.bin .mod (.bin .mul (.var 3) (.var 3)) (.con (.int 2147483587))) (.con (.int 69621))) (.con (.int 2147483647)))) (.cons (.ret (.bin .mod (.bin .fdiv (.bin .mod (.bin .mul (.var 3) (.var 3)) (.con (.int 2147483629))) (.con (.int 8))) (.var 1))) .nil)))))
def f37 : Fn := ⟨2, 4, b37⟩
/-- 38: _law_word (_law_box_here, _law_letters, _law_signs, _law_head, _law_k) -/
def b38 : S := (.cons (.asg (.name 1) (.con (.str [97, 98, 99, 100, 101, 102, 103, 104, 105, 106, 107, 108, 109, 110, 111, 112, 113, 114, 115, 116, 117, 118, 119, 120, 121, 122]))) (.cons (.asg (.name 2) (.bin .add (.var 1) (.con (.str [48, 49, 50, 51, 52, 53, 54, 55, 56, 57])))) (.cons (.ifs (.cmp .eq (.call 37 (.cons (.var 0) (.cons (.con (.int 4)) .nil))) (.con (.int 0))) (.cons (.ret (.bin .add (.ix (.var 1) (.call 37 (.cons (.var 0) (.cons (.con (.int 26)) .nil)))) (.bm .join (.con (.str [])) (.cons (.lc (.ix (.var 2) (.call 37 (.cons (.var 0) (.cons (.con (.int 36)) .nil)))) (.name 4) (.irange1 (.call 37 (.cons (.var 0) (.cons (.con (.int 6)) .nil)))) .nil [4]) .nil)))) .nil) .nil) (.cons (.asg (.name 3) (.bm .join (.con (.str [])) (.cons (.lc (.ix (.var 1) (.call 37 (.cons (.var 0) (.cons (.con (.int 3)) .nil)))) (.name 4) (.irange1 (.bin .add (.con (.int 1)) (.call 37 (.cons (.var 0) (.cons (.con (.int 3)) .nil))))) .nil [4]) .nil))) (.cons (.ret (.bin .add (.var 3) (.ix (.lst (.cons (.con (.str [])) (.cons (.con (.str [])) (.cons (.con (.str [49])) (.cons (.con (.str [50])) (.cons (.con (.str [49, 50])) (.cons (.con (.str [48])) .nil))))))) (.call 37 (.cons (.var 0) (.cons (.con (.int 6)) .nil)))))) .nil)))))
def f38 : Fn := ⟨1, 5, b38⟩
/-- 39: _law_series_row (_law_box_here, _law_name, _law_every, _law_times, _law_window, _law_first) -/
def b39 : S := (.cons (.asg (.name 2) (.bin .add (.con (.int 1)) (.ix (.lst (.cons (.call 37 (.cons (.var 0) (.cons (.con (.int 5)) .nil))) (.cons (.call 37 (.cons (.var 0) (.cons (.con (.int 40)) .nil))) (.cons (.call 37 (.cons (.var 0) (.cons (.con (.int 200)) .nil))) .nil)))) (.call 37 (.cons (.var 0) (.cons (.con (.int 3)) .nil)))))) (.cons (.asg (.name 3) (.bin .add (.con (.int 1)) (.ix (.lst (.cons (.call 37 (.cons (.var 0) (.cons (.con (.int 3)) .nil))) (.cons (.call 37 (.cons (.var 0) (.cons (.con (.int 6)) .nil))) (.cons (.call 37 (.cons (.var 0) (.cons (.con (.int 12)) .nil))) (.cons (.call 37 (.cons (.var 0) (.cons (.con (.int 30)) .nil))) .nil))))) (.call 37 (.cons (.var 0) (.cons (.con (.int 4)) .nil)))))) (.cons (.asg (.name 4) (.bin .add (.con (.int 1)) (.ix (.lst (.cons (.call 37 (.cons (.var 0) (.cons (.con (.int 6)) .nil))) (.cons (.call 37 (.cons (.var 0) (.cons (.con (.int 30)) .nil))) (.cons (.call 37 (.cons (.var 0) (.cons (.con (.int 200)) .nil))) .nil)))) (.call 37 (.cons (.var 0) (.cons (.con (.int 3)) .nil)))))) (.cons (.asg (.name 4) (.bi .min (.cons (.var 4) (.cons (.bin .sub (.con (.int 200)) (.bin .mul (.bin .sub (.var 3) (.con (.int 1))) (.bi .min (.cons (.var 2) (.cons (.bin .fdiv (.con (.int 199)) (.var 3)) .nil))))) .nil)))) (.cons (.asg (.name 2) (.bi .min (.cons (.var 2) (.cons (.bin .fdiv (.con (.int 199)) (.var 3)) .nil)))) (.cons (.asg (.name 5) (.call 37 (.cons (.var 0) (.cons (.bin .sub (.bin .sub (.con (.int 201)) (.var 4)) (.bin .mul (.bin .sub (.var 3) (.con (.int 1))) (.var 2))) .nil)))) (.cons (.ret (.tup (.cons (.var 1) (.cons (.var 5) (.cons (.var 4) (.cons (.bin .add (.con (.int 1)) (.call 37 (.cons (.var 0) (.cons (.ix (.lst (.cons (.con (.int 3)) (.cons (.con (.int 12)) .nil))) (.call 37 (.cons (.var 0) (.cons (.con (.int 2)) .nil)))) .nil)))) (.cons (.var 2) (.cons (.var 3) .nil)))))))) .nil)))))))
def f39 : Fn := ⟨2, 6, b39⟩
/-- 40: _law_series_pieces (_law_rows, _law_found, _law_name, _law_first, _law_window, _law_length, _law_every, _law_times, _law_k) -/
def b40 : S := (.cons (.asg (.name 1) (.lst .nil)) (.cons (.for (.tup (.cons (.name 2) (.cons (.name 3) (.cons (.name 4) (.cons (.name 5) (.cons (.name 6) (.cons (.name 7) .nil))))))) (.iseq (.var 0)) (.cons (.for (.name 8) (.irange1 (.var 7)) (.cons (.ex (.bm .append (.var 1) (.cons (.tup (.cons (.bin .add (.var 2) (.bi .str (.cons (.var 8) .nil))) (.cons (.bin .add (.var 3) (.bin .mul (.var 8) (.var 6))) (.cons (.bin .sub (.bin .add (.bin .add (.var 3) (.bin .mul (.var 8) (.var 6))) (.var 4)) (.con (.int 1))) (.cons (.var 5) (.cons (.var 5) .nil)))))) .nil))) .nil)) .nil)) (.cons (.ret (.var 1)) .nil)))
def f40 : Fn := ⟨1, 9, b40⟩
/-- 41: _law_series (_law_box_here, _law_most, _law_rows, _law_k, _law_row_here, _law_names, _law_piece, _law_one) -/
def b41 : S := (.cons (.asg (.name 2) (.lst .nil)) (.cons (.for (.name 3) (.irange1 (.call 37 (.cons (.var 0) (.cons (.bin .add (.var 1) (.con (.int 1))) .nil)))) (.cons (.asg (.name 4) (.call 39 (.cons (.var 0) (.cons (.call 38 (.cons (.var 0) .nil)) .nil)))) (.cons (.asg (.name 5) (.lc (.ix (.var 6) (.con (.int 0))) (.name 6) (.iseq (.call 40 (.cons (.bin .add (.var 2) (.lst (.cons (.var 4) .nil))) .nil))) .nil [6])) (.cons (.ifs (.and (.cons (.cmp .nin (.ix (.var 4) (.con (.int 0))) (.lc (.ix (.var 7) (.con (.int 0))) (.name 7) (.iseq (.var 2)) .nil [7])) (.cons (.cmp .eq (.bi .lenset (.cons (.var 5) .nil)) (.bi .len (.cons (.var 5) .nil))) (.cons (.cmp .lt (.bi .len (.cons (.var 5) .nil)) (.con (.int 31))) .nil)))) (.cons (.ex (.bm .append (.var 2) (.cons (.var 4) .nil))) .nil) .nil) .nil)))) (.cons (.ret (.var 2)) .nil)))
def f41 : Fn := ⟨2, 8, b41⟩
/-- 42: _law_thing (_law_box_here, _law_some) -/
def b42 : S := (.cons (.asg (.name 1) (.lst (.cons (.con (.non)) (.cons (.con (.bl true)) (.cons (.con (.bl false)) (.cons (.con (.int 0)) (.cons (.con (.int 1)) (.cons (.bin .sub (.con (.int 0)) (.con (.int 1))) (.cons (.con (.int 200)) (.cons (.con (.int 201)) (.cons (.bin .pow (.con (.int 10)) (.con (.int 29))) (.cons (.bin .sub (.con (.int 0)) (.bin .pow (.con (.int 10)) (.con (.int 29)))) (.cons (.con (.str [])) (.cons (.con (.str [97])) (.cons (.con (.str [48])) (.cons (.con (.str [55])) (.cons (.con (.str [48, 55])) (.cons (.con (.str [57, 57, 57, 57])) (.cons (.con (.str [49, 48, 48, 48, 48])) .nil))))))))))))))))))) (.cons (.asg (.name 1) (.bin .add (.var 1) (.lst (.cons (.con (.str [97, 49])) (.cons (.con (.str [49, 97])) (.cons (.con (.str [65])) (.cons (.con (.str [97, 98, 99, 100, 101, 102, 103, 104])) (.cons (.con (.str [97, 98, 99, 100, 101, 102, 103, 104, 105])) (.cons (.con (.str [97, 32])) (.cons (.con (.str [32, 49])) (.cons (.con (.str [43, 49])) (.cons (.con (.str [45, 49])) (.cons (.con (.str [97, 45, 98])) (.cons (.con (.str [49, 46, 53])) (.cons (.con (.str [97, 10])) (.cons (.con (.str [122, 57, 122, 57, 122, 57, 122, 57])) .nil)))))))))))))))) (.cons (.asg (.name 1) (.bin .add (.var 1) (.lst (.cons (.lst .nil) (.cons (.tup .nil) (.cons (.dic .nil .nil) (.cons (.lst (.cons (.con (.int 1)) .nil)) (.cons (.tup (.cons (.con (.int 1)) .nil)) (.cons (.tup (.cons (.con (.str [97])) (.cons (.con (.int 0)) (.cons (.con (.int 5)) (.cons (.con (.int 2)) .nil))))) (.cons (.dic (.cons (.con (.str [97])) .nil) (.cons (.con (.int 1)) .nil)) (.cons (.lst (.cons (.lst (.cons (.con (.str [97])) (.cons (.con (.int 0)) (.cons (.con (.int 5)) (.cons (.con (.int 2)) .nil))))) .nil)) (.cons (.con (.str [10])) (.cons (.con (.str [109, 111, 119, 32, 51, 32, 52, 48, 32, 53])) .nil))))))))))))) (.cons (.ret (.ix (.var 1) (.call 37 (.cons (.var 0) (.cons (.con (.int 40)) .nil))))) .nil))))
def f42 : Fn := ⟨1, 2, b42⟩
/-- 43: _law_whole (_law_thing_here, _law_low, _law_high) -/
def b43 : S := (.cons (.ret (.and (.cons (.isi (.var 0) [.int]) (.cons (.not (.isi (.var 0) [.bool])) (.cons (.chain .le .le (.var 1) (.var 0) (.var 2)) .nil))))) .nil)
def f43 : Fn := ⟨3, 3, b43⟩
/-- 44: _law_row_fault (_law_row_here, _law_ahead, _law_letters, _law_ends, _law_at, _law_word_here, _law_low, _law_high, _law_mine, _law_others, _law_one, _law_sign, _law_k, _law_name) -/
def b44 : S := (.cons (.ifs (.or (.cons (.not (.isi (.var 0) [.tuple])) (.cons (.cmp .ne (.bi .len (.cons (.var 0) .nil)) (.con (.int 6))) .nil))) (.cons (.ret (.con (.str [102, 111, 114, 109]))) .nil) .nil) (.cons (.asg (.name 2) (.con (.str [97, 98, 99, 100, 101, 102, 103, 104, 105, 106, 107, 108, 109, 110, 111, 112, 113, 114, 115, 116, 117, 118, 119, 120, 121, 122]))) (.cons (.ifs (.or (.cons (.not (.isi (.ix (.var 0) (.con (.int 0))) [.str])) (.cons (.not (.chain .le .le (.con (.int 1)) (.bi .len (.cons (.ix (.var 0) (.con (.int 0))) .nil)) (.con (.int 6)))) (.cons (.cmp .nin (.ix (.ix (.var 0) (.con (.int 0))) (.con (.int 0))) (.var 2)) .nil)))) (.cons (.ret (.con (.str [110, 97, 109, 101]))) .nil) .nil) (.cons (.ifs (.cmp .ne (.lc (.var 11) (.name 11) (.iseq (.ix (.var 0) (.con (.int 0)))) (.cons (.cmp .nin (.var 11) (.bin .add (.var 2) (.con (.str [48, 49, 50, 51, 52, 53, 54, 55, 56, 57])))) .nil) [11]) (.lst .nil)) (.cons (.ret (.con (.str [110, 97, 109, 101]))) .nil) .nil) (.cons (.ifs (.cmp .inn (.ix (.var 0) (.con (.int 0))) (.lc (.ix (.var 10) (.con (.int 0))) (.name 10) (.iseq (.var 1)) .nil [10])) (.cons (.ret (.con (.str [100, 111, 117, 98, 108, 101]))) .nil) .nil) (.cons (.asg (.name 3) (.lst (.cons (.tup (.cons (.con (.str [102, 105, 114, 115, 116])) (.cons (.con (.int 0)) (.cons (.con (.int 199)) .nil)))) (.cons (.tup (.cons (.con (.str [119, 105, 110, 100, 111, 119])) (.cons (.con (.int 1)) (.cons (.con (.int 200)) .nil)))) (.cons (.tup (.cons (.con (.str [108, 101, 110, 103, 116, 104])) (.cons (.con (.int 1)) (.cons (.con (.int 12)) .nil)))) (.cons (.tup (.cons (.con (.str [101, 118, 101, 114, 121])) (.cons (.con (.int 1)) (.cons (.con (.int 200)) .nil)))) (.cons (.tup (.cons (.con (.str [116, 105, 109, 101, 115])) (.cons (.con (.int 1)) (.cons (.con (.int 30)) .nil)))) .nil))))))) (.cons (.for (.tup (.cons (.name 4) (.cons (.tup (.cons (.name 5) (.cons (.name 6) (.cons (.name 7) .nil)))) .nil))) (.ienum (.var 3)) (.cons (.ifs (.not (.call 43 (.cons (.ix (.var 0) (.bin .add (.var 4) (.con (.int 1)))) (.cons (.var 6) (.cons (.var 7) .nil))))) (.cons (.ret (.var 5)) .nil) .nil) .nil)) (.cons (.ifs (.cmp .gt (.bin .add (.bin .add (.ix (.var 0) (.con (.int 1))) (.bin .mul (.bin .sub (.ix (.var 0) (.con (.int 5))) (.con (.int 1))) (.ix (.var 0) (.con (.int 4))))) (.ix (.var 0) (.con (.int 2)))) (.con (.int 200))) (.cons (.ret (.con (.str [108, 97, 115, 116]))) .nil) .nil) (.cons (.asg (.name 8) (.lc (.bin .add (.ix (.var 0) (.con (.int 0))) (.bi .str (.cons (.var 12) .nil))) (.name 12) (.irange1 (.ix (.var 0) (.con (.int 5)))) .nil [12])) (.cons (.asg (.name 9) (.lst .nil)) (.cons (.for (.name 10) (.iseq (.var 1)) (.cons (.ex (.bm .extend (.var 9) (.cons (.lc (.bin .add (.ix (.var 10) (.con (.int 0))) (.bi .str (.cons (.var 12) .nil))) (.name 12) (.irange1 (.ix (.var 10) (.con (.int 5)))) .nil [12]) .nil))) .nil)) (.cons (.ifs (.cmp .ne (.lc (.var 13) (.name 13) (.iseq (.var 8)) (.cons (.cmp .inn (.var 13) (.var 9)) .nil) [13]) (.lst .nil)) (.cons (.ret (.con (.str [109, 101, 101, 116, 115]))) .nil) .nil) (.cons (.ret (.ix (.lst (.cons (.con (.str [])) (.cons (.con (.str [116, 111, 103, 101, 116, 104, 101, 114])) .nil))) (.bi .int (.cons (.cmp .gt (.bin .add (.bi .len (.cons (.var 8) .nil)) (.bi .len (.cons (.var 9) .nil))) (.con (.int 30))) .nil)))) .nil)))))))))))))
def f44 : Fn := ⟨2, 14, b44⟩
/-- 45: _law_fault (_law_thing_here, _law_at, _law_row_here, _law_why) -/
def b45 : S := (.cons (.ifs (.not (.isi (.var 0) [.list, .tuple])) (.cons (.ret (.tup (.cons (.con (.non)) (.cons (.con (.str [102, 111, 114, 109])) .nil)))) .nil) .nil) (.cons (.ifs (.cmp .gt (.bi .len (.cons (.var 0) .nil)) (.con (.int 30))) (.cons (.ret (.tup (.cons (.con (.int 30)) (.cons (.con (.str [109, 97, 110, 121])) .nil)))) .nil) .nil) (.cons (.for (.tup (.cons (.name 1) (.cons (.name 2) .nil))) (.ienum (.var 0)) (.cons (.asg (.name 3) (.call 44 (.cons (.var 2) (.cons (.bi .list (.cons (.sl (.var 0) .nil (.cons (.var 1) .nil)) .nil)) .nil)))) (.cons (.ifs (.cmp .ne (.var 3) (.con (.str []))) (.cons (.ret (.tup (.cons (.var 1) (.cons (.var 3) .nil)))) .nil) .nil) .nil))) (.cons (.ret (.con (.non))) .nil))))
def f45 : Fn := ⟨1, 4, b45⟩
/-- 46: _law_number (_law_word_here, _law_sign) -/
def b46 : S := (.cons (.ifs (.or (.cons (.cmp .lt (.bi .len (.cons (.var 0) .nil)) (.con (.int 1))) (.cons (.cmp .gt (.bi .len (.cons (.var 0) .nil)) (.con (.int 4))) (.cons (.cmp .ne (.lc (.var 1) (.name 1) (.iseq (.var 0)) (.cons (.cmp .nin (.var 1) (.con (.str [48, 49, 50, 51, 52, 53, 54, 55, 56, 57]))) .nil) [1]) (.lst .nil)) .nil)))) (.cons (.ret (.con (.non))) .nil) .nil) (.cons (.ifs (.and (.cons (.cmp .eq (.ix (.var 0) (.con (.int 0))) (.con (.str [48]))) (.cons (.cmp .ne (.var 0) (.con (.str [48]))) .nil))) (.cons (.ret (.con (.non))) .nil) .nil) (.cons (.ret (.bi .int (.cons (.var 0) .nil))) .nil)))
def f46 : Fn := ⟨1, 2, b46⟩
/-- 47: _law_row (_law_line, _law_words, _law_letters, _law_numbers, _law_word_here, _law_sign) -/
def b47 : S := (.cons (.asg (.name 1) (.bm .split (.var 0) (.cons (.con (.str [32])) .nil))) (.cons (.asg (.name 2) (.con (.str [97, 98, 99, 100, 101, 102, 103, 104, 105, 106, 107, 108, 109, 110, 111, 112, 113, 114, 115, 116, 117, 118, 119, 120, 121, 122]))) (.cons (.ifs (.or (.cons (.cmp .ne (.bi .len (.cons (.var 1) .nil)) (.con (.int 6))) (.cons (.not (.chain .le .le (.con (.int 1)) (.bi .len (.cons (.ix (.var 1) (.con (.int 0))) .nil)) (.con (.int 8)))) (.cons (.cmp .nin (.ix (.ix (.var 1) (.con (.int 0))) (.con (.int 0))) (.var 2)) .nil)))) (.cons (.ret (.con (.non))) .nil) .nil) (.cons (.asg (.name 3) (.lc (.call 46 (.cons (.var 4) .nil)) (.name 4) (.iseq (.sl (.var 1) (.cons (.con (.int 1)) .nil) .nil)) .nil [4])) (.cons (.ifs (.or (.cons (.cmp .inn (.con (.non)) (.var 3)) (.cons (.cmp .ne (.lc (.var 5) (.name 5) (.iseq (.ix (.var 1) (.con (.int 0)))) (.cons (.cmp .nin (.var 5) (.bin .add (.var 2) (.con (.str [48, 49, 50, 51, 52, 53, 54, 55, 56, 57])))) .nil) [5]) (.lst .nil)) .nil))) (.cons (.ret (.con (.non))) .nil) .nil) (.cons (.ret (.bi .tuple (.cons (.bin .add (.sl (.var 1) .nil (.cons (.con (.int 1)) .nil)) (.var 3)) .nil))) .nil))))))
def f47 : Fn := ⟨1, 6, b47⟩
/-- 48: _law_due (_law_thing_here, _law_rows, _law_fault_here, _law_line) -/
def b48 : S := (.cons (.ifs (.not (.isi (.var 0) [.str])) (.cons (.ret (.tup (.cons (.con (.str [98, 97, 100])) (.cons (.con (.int 0)) (.cons (.con (.str [102, 111, 114, 109])) .nil))))) .nil) .nil) (.cons (.asg (.name 1) (.lst .nil)) (.cons (.ifs (.cmp .ne (.var 0) (.con (.str []))) (.cons (.asg (.name 1) (.lc (.call 47 (.cons (.var 3) .nil)) (.name 3) (.iseq (.bm .split (.var 0) (.cons (.con (.str [10])) .nil))) .nil [3])) .nil) .nil) (.cons (.ifs (.cmp .inn (.con (.non)) (.var 1)) (.cons (.ret (.tup (.cons (.con (.str [98, 97, 100])) (.cons (.bm .index (.var 1) (.cons (.con (.non)) .nil)) (.cons (.con (.str [102, 111, 114, 109])) .nil))))) .nil) .nil) (.cons (.asg (.name 2) (.call 45 (.cons (.var 1) .nil))) (.cons (.ifs (.cmp .isnot (.var 2) (.con (.non))) (.cons (.ret (.bin .add (.tup (.cons (.con (.str [98, 97, 100])) .nil)) (.var 2))) .nil) .nil) (.cons (.ret (.tup (.cons (.con (.str [114, 111, 119, 115])) (.cons (.bi .tuple (.cons (.var 1) .nil)) (.cons (.var 0) .nil))))) .nil)))))))
def f48 : Fn := ⟨1, 4, b48⟩
/-- 49: _law_answer (_law_thing_here, _law_told, _law_series_here, _law_text, e) -/
def b49 : S := (.cons (.asg (.name 1) (.con (.non))) (.cons (.tri (.cons (.asg (.name 2) (.call 33 (.cons (.var 0) .nil))) (.cons (.asg (.name 3) (.call 34 (.cons (.var 2) .nil))) (.cons (.asg (.name 1) (.tup (.cons (.con (.str [114, 111, 119, 115])) (.cons (.meth (.var 2) 4 .nil) (.cons (.var 3) .nil))))) (.cons (.ifs (.or (.cons (.cmp .ne (.meth (.call 33 (.cons (.var 3) .nil)) 4 .nil) (.meth (.var 2) 4 .nil)) (.cons (.cmp .ne (.call 34 (.cons (.mk 6 (.cons (.bi .list (.cons (.meth (.var 2) 4 .nil) .nil)) .nil)) .nil)) (.var 3)) .nil))) (.cons (.asg (.name 1) (.con (.str [111, 100, 100]))) .nil) .nil) .nil)))) (.cons (.hd 2 (some 4) (.cons (.asg (.name 1) (.tup (.cons (.con (.str [98, 97, 100])) (.cons (.fld (.var 4) 0) (.cons (.fld (.var 4) 1) .nil))))) .nil)) (.cons (.hd 0 none (.cons (.asg (.name 1) (.con (.str [111, 116, 104, 101, 114]))) .nil)) .nil))) (.cons (.ret (.var 1)) .nil)))
def f49 : Fn := ⟨1, 5, b49⟩
/-- 50: _law_spoilt (_law_box_here, _law_text, _law_signs, _law_way, _law_at, _law_sign, _law_lines, _law_line, _law_words, _law_word_here, _law_other) -/
def b50 : S := (.cons (.asg (.name 2) (.con (.str [32, 33, 34, 35, 36, 38, 39, 40, 41, 42, 43, 44, 45, 46, 47, 48, 49, 50, 51, 52, 53, 54, 55, 56, 57, 58, 59, 60, 61, 62, 63, 64, 65, 66, 67, 68, 69, 70, 71, 72, 73, 74, 75, 76, 77, 78, 79, 80, 81, 82, 83, 84, 85, 86, 87, 88, 89, 90, 91, 92, 93, 94, 95, 96]))) (.cons (.asg (.name 2) (.bin .add (.var 2) (.con (.str [97, 98, 99, 100, 101, 102, 103, 104, 105, 106, 107, 108, 109, 110, 111, 112, 113, 114, 115, 116, 117, 118, 119, 120, 121, 122, 123, 124, 125, 126, 10])))) (.cons (.asg (.name 3) (.call 37 (.cons (.var 0) (.cons (.con (.int 7)) .nil)))) (.cons (.asg (.name 4) (.call 37 (.cons (.var 0) (.cons (.bin .add (.bi .len (.cons (.var 1) .nil)) (.con (.int 1))) .nil)))) (.cons (.asg (.name 5) (.ix (.lst (.cons (.ix (.con (.str [97, 98, 122, 48, 49, 57, 32, 10, 45, 43, 46, 58, 65])) (.call 37 (.cons (.var 0) (.cons (.con (.int 13)) .nil)))) (.cons (.ix (.var 2) (.call 37 (.cons (.var 0) (.cons (.con (.int 95)) .nil)))) .nil))) (.call 37 (.cons (.var 0) (.cons (.con (.int 2)) .nil))))) (.cons (.ifs (.cmp .eq (.var 3) (.con (.int 0))) (.cons (.ret (.bin .add (.bin .add (.sl (.var 1) .nil (.cons (.var 4) .nil)) (.var 5)) (.sl (.var 1) (.cons (.var 4) .nil) .nil))) .nil) .nil) (.cons (.ifs (.cmp .eq (.var 3) (.con (.int 1))) (.cons (.ret (.bin .add (.sl (.var 1) .nil (.cons (.var 4) .nil)) (.sl (.var 1) (.cons (.bin .add (.var 4) (.con (.int 1))) .nil) .nil))) .nil) .nil) (.cons (.ifs (.cmp .eq (.var 3) (.con (.int 2))) (.cons (.ret (.bin .add (.bin .add (.sl (.var 1) .nil (.cons (.var 4) .nil)) (.var 5)) (.sl (.var 1) (.cons (.bin .add (.var 4) (.con (.int 1))) .nil) .nil))) .nil) .nil) (.cons (.asg (.name 6) (.bm .split (.var 1) (.cons (.con (.str [10])) .nil))) (.cons (.asg (.name 7) (.call 37 (.cons (.var 0) (.cons (.bi .len (.cons (.var 6) .nil)) .nil)))) (.cons (.asg (.name 8) (.bm .split (.ix (.var 6) (.var 7)) (.cons (.con (.str [32])) .nil))) (.cons (.asg (.name 9) (.call 37 (.cons (.var 0) (.cons (.bi .len (.cons (.var 8) .nil)) .nil)))) (.cons (.ifs (.cmp .eq (.var 3) (.con (.int 3))) (.cons (.asub (.var 6) (.var 7) (.bm .join (.con (.str [32])) (.cons (.bin .add (.sl (.var 8) .nil (.cons (.var 9) .nil)) (.sl (.var 8) (.cons (.bin .add (.var 9) (.con (.int 1))) .nil) .nil)) .nil))) .nil) (.cons (.ifs (.cmp .eq (.var 3) (.con (.int 4))) (.cons (.asub (.var 6) (.var 7) (.bm .join (.con (.str [32])) (.cons (.bin .add (.sl (.var 8) .nil (.cons (.bin .add (.var 9) (.con (.int 1))) .nil)) (.sl (.var 8) (.cons (.var 9) .nil) .nil)) .nil))) .nil) (.cons (.ifs (.cmp .eq (.var 3) (.con (.int 5))) (.cons (.asg (.name 10) (.ix (.lst (.cons (.con (.str [48])) (.cons (.con (.str [48, 48])) (.cons (.con (.str [49, 51])) (.cons (.con (.str [51, 49])) (.cons (.con (.str [50, 48, 49])) (.cons (.con (.str [49, 57, 57])) (.cons (.con (.str [57, 57, 57, 57])) (.cons (.con (.str [49, 48, 48, 48, 48])) (.cons (.con (.str [97])) (.cons (.con (.str [97, 98, 99, 100, 101, 102, 103])) .nil))))))))))) (.call 37 (.cons (.var 0) (.cons (.con (.int 10)) .nil))))) (.cons (.asub (.var 6) (.var 7) (.bm .join (.con (.str [32])) (.cons (.bin .add (.bin .add (.sl (.var 8) .nil (.cons (.var 9) .nil)) (.lst (.cons (.var 10) .nil))) (.sl (.var 8) (.cons (.bin .add (.var 9) (.con (.int 1))) .nil) .nil)) .nil))) .nil)) (.cons (.asg (.name 6) (.bin .add (.bin .add (.sl (.var 6) .nil (.cons (.var 7) .nil)) (.sl (.lst (.cons (.ix (.var 6) (.var 7)) (.cons (.con (.str [])) .nil))) (.cons (.call 37 (.cons (.var 0) (.cons (.con (.int 2)) .nil))) .nil) .nil)) (.sl (.var 6) (.cons (.var 7) .nil) .nil))) .nil)) .nil)) .nil)) (.cons (.ret (.bm .join (.con (.str [10])) (.cons (.var 6) .nil))) .nil))))))))))))))
def f50 : Fn := ⟨2, 11, b50⟩
/-- 51: law (_law_script, _law_k, _law_box_here, _law_rows, _law_text, _law_lap, _law_thing_here, _law_row_here) -/
def b51 : S := (.cons (.for (.name 1) (.irange1 (.bi .max (.cons (.con (.int 8)) (.cons (.bi .min (.cons (.bi .len (.cons (.var 0) .nil)) (.cons (.con (.int 40)) .nil))) .nil)))) (.cons (.asg (.name 2) (.call 36 (.cons (.call 35 (.cons (.var 0) (.cons (.var 1) .nil))) .nil))) (.cons (.asg (.name 3) (.call 41 (.cons (.var 2) (.cons (.con (.int 6)) .nil)))) (.cons (.asg (.name 4) (.bm .join (.con (.str [10])) (.cons (.lc (.bm .join (.con (.str [32])) (.cons (.lc (.bi .str (.cons (.var 6) .nil)) (.name 6) (.iseq (.var 7)) .nil [6]) .nil)) (.name 7) (.iseq (.var 3)) .nil [7]) .nil))) (.cons (.ifs (.cmp .ne (.call 49 (.cons (.var 4) .nil)) (.tup (.cons (.con (.str [114, 111, 119, 115])) (.cons (.bi .tuple (.cons (.var 3) .nil)) (.cons (.var 4) .nil))))) (.cons (.ret (.con (.bl false))) .nil) .nil) (.cons (.for (.name 5) (.irange1 (.bin .add (.con (.int 1)) (.call 37 (.cons (.var 2) (.cons (.con (.int 3)) .nil))))) (.cons (.asg (.name 4) (.call 50 (.cons (.var 2) (.cons (.var 4) .nil)))) .nil)) (.cons (.ifs (.cmp .ne (.call 49 (.cons (.var 4) .nil)) (.call 48 (.cons (.var 4) .nil))) (.cons (.ret (.con (.bl false))) .nil) .nil) (.cons (.asg (.name 6) (.call 42 (.cons (.var 2) .nil))) (.cons (.ifs (.cmp .ne (.call 49 (.cons (.var 6) .nil)) (.call 48 (.cons (.var 6) .nil))) (.cons (.ret (.con (.bl false))) .nil) .nil) .nil))))))))) (.cons (.ret (.con (.bl true))) .nil))
def f51 : Fn := ⟨1, 8, b51⟩
def fnT : Nat → Option Fn
  | 0 => some f0
  | 1 => some f1
  | 2 => some f2
  | 3 => some f3
  | 4 => some f4
  | 5 => some f5
  | 6 => some f6
  | 7 => some f7
  | 8 => some f8
  | 9 => some f9
  | 10 => some f10
  | 11 => some f11
  | 12 => some f12
  | 13 => some f13
  | 14 => some f14
  | 15 => some f15
  | 16 => some f16
  | 17 => some f17
  | 18 => some f18
  | 19 => some f19
  | 20 => some f20
  | 21 => some f21
  | 22 => some f22
  | 23 => some f23
  | 24 => some f24
  | 25 => some f25
  | 26 => some f26
  | 27 => some f27
  | 28 => some f28
  | 29 => some f29
  | 30 => some f30
  | 31 => some f31
  | 32 => some f32
  | 33 => some f33
  | 34 => some f34
  | 35 => some f35
  | 36 => some f36
  | 37 => some f37
  | 38 => some f38
  | 39 => some f39
  | 40 => some f40
  | 41 => some f41
  | 42 => some f42
  | 43 => some f43
  | 44 => some f44
  | 45 => some f45
  | 46 => some f46
  | 47 => some f47
  | 48 => some f48
  | 49 => some f49
  | 50 => some f50
  | 51 => some f51
  | _ => none
def mtT : Nat → Nat → Option Nat
  | 5, 4 => some 10
  | 5, 5 => some 11
  | 5, 6 => some 12
  | 5, 7 => some 13
  | 5, 8 => some 14
  | 5, 9 => some 15
  | 5, 10 => some 16
  | 5, 11 => some 17
  | 5, 12 => some 18
  | 5, 13 => some 19
  | 6, 4 => some 25
  | 6, 5 => some 26
  | 6, 7 => some 27
  | 6, 14 => some 28
  | 6, 15 => some 29
  | 6, 16 => some 30
  | 6, 17 => some 31
  | _, _ => none
def iniT : Nat → Option Nat
  | 5 => some 9
  | 6 => some 24
  | _ => none
def xfT : Nat → List Nat
  | 0 => []
  | 1 => [0, 1]
  | 2 => [0, 1]
  | 3 => [2]
  | 4 => [0, 1]
  | _ => []
def subT : Nat → Nat → Bool
  | 0, 0 => true
  | 1, 1 => true
  | 1, 0 => true
  | 2, 2 => true
  | 2, 0 => true
  | 3, 3 => true
  | 3, 0 => true
  | 4, 4 => true
  | 4, 0 => true
  | 5, 5 => true
  | 6, 6 => true
  | _, _ => false
def flT : Nat → Nat → Bool
  | 5, 18 => true
  | 6, 20 => true
  | 6, 19 => true
  | _, _ => false
def isbT : Nat → Nat → Option Bool
  | _, _ => none
def glbT : List U := [.str [48, 49, 50, 51, 52, 53, 54, 55, 56, 57], .str [97, 98, 99, 100, 101, 102, 103, 104, 105, 106, 107, 108, 109, 110, 111, 112, 113, 114, 115, 116, 117, 118, 119, 120, 121, 122], .int 8, .int 4, .int 30, .int 199, .int 12, .int 6, .tup [.tup [.str [102, 105, 114, 115, 116], .int 0, .int 199], .tup [.str [119, 105, 110, 100, 111, 119], .int 1, .int 200], .tup [.str [108, 101, 110, 103, 116, 104], .int 1, .int 12], .tup [.str [101, 118, 101, 114, 121], .int 1, .int 200], .tup [.str [116, 105, 109, 101, 115], .int 1, .int 30]], .int 6]
def tab : Tab := ⟨glbT, mtT, iniT, xfT, subT, flT, isbT⟩
theorem tab_fl : tab.fl = flT := rfl
theorem tab_xf : tab.xf = xfT := rfl
theorem tab_sub : tab.sub = subT := rfl
theorem tab_mt : tab.mt = mtT := rfl
theorem tab_ini : tab.ini = iniT := rfl
theorem tab_isb : tab.isb = isbT := rfl
theorem tg0 : tab.glb[0]? = some (.str [48, 49, 50, 51, 52, 53, 54, 55, 56, 57]) := rfl
theorem tg1 : tab.glb[1]? = some (.str [97, 98, 99, 100, 101, 102, 103, 104, 105, 106, 107, 108, 109, 110, 111, 112, 113, 114, 115, 116, 117, 118, 119, 120, 121, 122]) := rfl
theorem tg2 : tab.glb[2]? = some (.int 8) := rfl
theorem tg3 : tab.glb[3]? = some (.int 4) := rfl
theorem tg4 : tab.glb[4]? = some (.int 30) := rfl
theorem tg5 : tab.glb[5]? = some (.int 199) := rfl
theorem tg6 : tab.glb[6]? = some (.int 12) := rfl
theorem tg7 : tab.glb[7]? = some (.int 6) := rfl
theorem tg8 : tab.glb[8]? = some (.tup [.tup [.str [102, 105, 114, 115, 116], .int 0, .int 199], .tup [.str [119, 105, 110, 100, 111, 119], .int 1, .int 200], .tup [.str [108, 101, 110, 103, 116, 104], .int 1, .int 12], .tup [.str [101, 118, 101, 114, 121], .int 1, .int 200], .tup [.str [116, 105, 109, 101, 115], .int 1, .int 30]]) := rfl
theorem tg9 : tab.glb[9]? = some (.int 6) := rfl
/- attributes: 0 at, 1 why, 2 found, 3 __init__, 4 told, 5 names, 6 has, 7 row, 8 with_row, 9 without, 10 put_at, 11 with_last, 12 with_left, 13 since, 14 pieces, 15 begun_at, 16 whose, 17 open_at, 18 fives, 19 held, 20 known -/
/- classes: 0 SlackError, 1 BadPieces, 2 BadText, 3 NoPiece, 4 BadSeries, 5 Pieces, 6 Series -/
end K78
local macro_rules
  | `(tactic| dsimp! only [$as,*]) => `(tactic| simp (disch := first | assumption | exact Ev.kno_int | exact Ev.kno_str | exact Ev.kno_tup | exact Ev.Kno.app (by assumption) _ | omega | exact (rfl : @Eq Bool _ _) | exact (rfl : @Eq Nat _ _) | exact (rfl : @Eq (Option _) _ _) | (simp; done) | (simp; omega)) only [Ev.Post, Ev.F.post, Ev.PostO, Ev.Post.ok, Ev.Post.exc, Ev.Post.bad, Ev.F.post_nx, Ev.F.post_rt, Ev.F.post_exc, Ev.F.post_bk, Ev.F.post_ct, Ev.F.post_bad, Ev.PostO.some, Ev.PostO.none, Ev.PostO.map, Ev.PostO.bind, Ev.Br.t, Ev.Br.f, Ev.Br.not, Ev.F.post_ofR, Ev.augO_ok, Ev.augF, Ev.tk_0, Ev.tk_s, Ev.dr_0, Ev.dr_s, ↓Ev.q_var, ↓Ev.q_con, ↓Ev.q_glb, ↓Ev.q_bin, ↓Ev.q_cmp, ↓Ev.q_neg, ↓Ev.q_chain, ↓Ev.q_not, ↓Ev.q_ife, ↓Ev.q_andE, ↓Ev.q_orE, ↓Ev.q_and1, ↓Ev.q_or1, ↓Ev.q_and, ↓Ev.q_or, ↓Ev.q_tup, ↓Ev.q_lst, ↓Ev.q_dic0, ↓Ev.q_ix, ↓Ev.q_sl, ↓Ev.q_call, ↓Ev.q_bi, ↓Ev.q_fld, ↓Ev.q_meth, ↓Ev.q_bm, ↓Ev.q_isi, ↓Ev.q_lc, ↓Ev.q_es_nil, ↓Ev.q_es_cons, ↓Ev.q_optn, ↓Ev.q_opt, ↓Ev.q_c0, ↓Ev.q_c1, ↓Ev.q_iseq, ↓Ev.q_ir1, ↓Ev.q_ir2, ↓Ev.q_ien, ↓Ev.q_izip, ↓Ev.q_iitems, ↓Ev.q_ivals, ↓Ev.q_ikeys, ↓Ev.q_nil, ↓Ev.q_cons, ↓Ev.q_asg, ↓Ev.q_asub, ↓Ev.q_afld, ↓Ev.q_ifs, ↓Ev.q_aug, ↓Ev.q_ex, ↓Ev.q_ret, ↓Ev.q_ret0, ↓Ev.q_brk, ↓Ev.q_cnt, ↓Ev.q_pas, ↓Ev.q_for, ↓Ev.q_rai, ↓Ev.q_tri, Ev.asubF_ref, Ev.asubR_l, Ev.asubR_d, Ev.setF_ok, Ev.putR_ok, Ev.ko_s, Ev.ko_i, Ev.n_at, Ev.afldF_ref, Ev.afldR_br, Ev.fld_ref, Ev.fldO_br, Ev.lookF_cons, Ev.putF, Nat.reduceBEq, K78.tab_fl, K78.flT, K78.tab_xf, K78.xfT, K78.tab_sub, K78.subT, K78.tab_mt, K78.mtT, Ev.sl_ref, Ev.slO_ok, Ev.sl_str, Ev.sl_tup, Ev.varR_ok, Ev.optR_ok, Ev.asgF_name, Ev.forR_ok, Ev.raiF_ok, Ev.mkR_ok, Ev.post_if, Ev.fpost_if, Ev.posto_if, Ev.b_add, Ev.b_sub, Ev.b_mul, Ev.b_fdiv, Ev.b_mod, Ev.b_str, Ev.b_lst, Ev.addL_ok, Ev.l_at, Ev.l_w, Ev.d_at, Ev.d_w, Ev.ix_tup, Ev.ix_ref, Ev.ix_str, Ev.ixN_p, Ev.ixN_n, Ev.c_eq, Ev.c_ne, Ev.c_lt, Ev.c_le, Ev.c_gt, Ev.c_ge, Ev.c_is, Ev.c_isnot, Ev.eq_ii, Ev.eq_ss, Ev.t_bl, Ev.t_int, Ev.t_non, Ev.t_str, Ev.t_tup, Ev.bi_lens, Ev.bi_lent, Ev.bi_len, Ev.bi_max, Ev.bi_min, Ev.bi_str, Ev.bi_divmod, Ev.bm_split, Ev.bi_intb, Ev.bm_app, Ev.appR_ok, Ev.bm_ext, Ev.extR_ok, Ev.rcv_app, Ev.rcv_ext, Ev.rcv_join, Ev.rcv_split, Ev.rcv_index, Ev.newL_ok, Ev.w_tup, Ev.w_str, Ev.w_ref, Ev.itL_ok, Ev.w_en, Ev.w_ent, Ev.w_r1, Ev.w_r2, id_eq, List.getElem?_cons_zero, List.getElem?_cons_succ, List.set_cons_zero, List.set_cons_succ, List.length_cons, List.length_nil, List.length_map, List.length_append, List.length_set, List.length_replicate, Option.isSome_some, Option.some.injEq, Int.toNat_natCast, Int.reduceToNat, Int.cast_ofNat_Int, Int.reduceAdd, Int.reduceSub, Int.reduceMul, Int.reduceNeg, Int.reduceLT, Int.reduceLE, Int.reduceEq, Int.reduceNe, Nat.reduceLT, Nat.reduceLeDiff, Nat.reduceEqDiff, Nat.reduceMul, Nat.reduceSub, List.replicate_succ, List.replicate_zero, Ev.start_eq, Ev.startR_nil, Ev.startR_cons, decide_true, decide_false, Bool.false_eq_true, reduceCtorEq, List.set_set, List.getElem?_set_self, List.getElem?_set_ne, List.cons_append, List.nil_append, Option.map_some, if_true, if_false, Nat.zero_add, Nat.reduceAdd, Ev.isa_int, Ev.isa_bool, Ev.isa_str, Ev.isa_tup, Ev.isa_seq, Ev.isIntU, Ev.isBlU, Ev.isStrU, Ev.isTupU, Option.bind_some, Bool.or_false, Bool.or_true, Bool.false_or, Bool.true_or, Bool.or_self, Bool.and_self, Ev.in_sc, eq_self, Ev.ae_strs, ↓Ev.q_dic1, Ev.dicR1_ok, ↓Ev.q_hd, ↓Ev.q_hd0, ↓Ev.q_hdn, Ev.fld_exc, Ev.fnd_cons, Ev.eq_tt, Ev.ae_cons, Ev.so_ss, Ev.so_ii, Ev.so_nn, Ev.so_nt, Ev.so_tn, Ev.so_tt, Ev.so_rr, Ev.cut_last, beq_self_eq_true, ne_eq, K78.tab_isb, Ev.anyEq_strs, Ev.bi_lenset, Ev.lsR_ok, Ev.b_pow18, Ev.b_pow29, Ev.jn_one, Ev.bm_join, Ev.jnR_ok, Ev.strs_map, Bool.and_true, Bool.and_false, Bool.true_and, Bool.false_and, Ev.asgF_tup, Ev.evP, Ev.evPs, Ev.forB_tup, Ev.forB_name, Ev.lcF_name, Ev.forR_lk, Ev.forLk_ok, Ev.w_vals, Ev.w_keys, Ev.w_items, Ev.itD_ok, Ev.bi_tupvals, Ev.tvR_ok, Ev.bi_tupleR, Ev.tpR_ok, Ev.bi_tupleT, Ev.bi_listT, Ev.bi_listR, Ev.liR_l, Ev.liR_d, Ev.bi_sk, Ev.lo_ref, Ev.in_ref, Ev.eq_ref, Ev.ae_nil, Ev.cut_one, Option.isSome_none, Ev.negR_int, Ev.c_in, Ev.c_nin, Ev.wipe, Ev.w_zip, Ev.bi_all, Ev.allR_ok, Ev.mkR_ok, Ev.app_at, Ev.app_at0, Ev.set_at, Ev.set_at0, Ev.app_sat, Ev.app_sat0, Ev.set_sat, Ev.set_sat0, List.append_assoc, Nat.add_assoc, Ev.set_app, Ev.get_app, List.length_range, Bool.not_true, Bool.not_false, not_true_eq_false, not_false_eq_true, and_true, true_and, and_false, false_and, or_true, true_or, or_false, false_or, ite_true, ite_false, reduceIte, K78.tg0, K78.tg1, K78.tg2, K78.tg3, K78.tg4, K78.tg5, K78.tg6, K78.tg7, K78.tg8, K78.tg9, $as,*])
namespace K78
open Ev
abbrev C (n : Nat) := callF tab fnT n
theorem whole_eq (n h u) (k : Kno h u) : callF tab fnT (n+1) 1 [u] h = .ok (.bl (isIntU u)) h := by
  apply eq_of_post
  rw [q_callF rfl rfl]
  dsimp! only [f1, b1]
  cases u <;> dsimp! only []
/-- a whole number from one to another one -/
def within (u : U) (a b : Int) : Bool := match u with | .int i => decide (a ≤ i ∧ i ≤ b) | _ => false
theorem within_eq (n h u a b) (k : Kno h u) : callF tab fnT (n+2) 2 [u, .int a, .int b] h = .ok (.bl (within u a b)) h := by
  apply eq_of_post
  rw [q_callF rfl rfl]
  dsimp! only [f2, b2, whole_eq n h u k]
  cases u <;> dsimp! only [within]
  rename_i i
  refine Br.dec (fun x => ?_) (fun x => ?_)
  · dsimp! only [x]
  · dsimp! only [x, decide_false]
end K78
namespace K78
open Ev
/-! ### rows and pieces -/
structure Row where
  name : List Nat
  first : Int
  window : Int
  len : Int
  every : Int
  times : Int
def rowU (r : Row) : U := .tup [.str r.name, .int r.first, .int r.window, .int r.len, .int r.every, .int r.times]
structure Pc where
  name : List Nat
  first : Int
  last : Int
  len : Int
def pcU (p : Pc) : U := .tup [.str p.name, .int p.first, .int p.last, .int p.len, .int p.len]
def pc (r : Row) (k : Nat) : Pc := ⟨r.name ++ sInt k, r.first + k * r.every, r.first + k * r.every + r.window - 1, r.len⟩
def pcs (r : Row) : List Pc := (List.range r.times.toNat).map (pc r)
theorem sInt_small : ∀ k < 40, (sInt (k : Nat)).length ≤ 2 ∧ ((k : Int)).natAbs.log2 < 1920 := by decide +kernel
theorem range_split {α : Type} {f : Nat → α} {n : Nat} {pre rest : List α} {u : α} (e : (List.range n).map f = pre ++ u :: rest) : u = f pre.length ∧ pre.length < n := by
  have h1 := congrArg List.length e
  simp at h1
  have h2 : ((List.range n).map f)[pre.length]? = some u := by rw [e]; simp
  rw [List.getElem?_map, List.getElem?_range (by omega)] at h2
  exact ⟨by simpa using h2.symm, by omega⟩
theorem map_split {α β : Type} {f : β → α} {l : List β} {pre rest : List α} {u : α} (e : l.map f = pre ++ u :: rest) : ∃ x, l[pre.length]? = some x ∧ u = f x ∧ pre = (l.take pre.length).map f ∧ l = l.take pre.length ++ x :: l.drop (pre.length + 1) := by
  have h1 := congrArg List.length e
  simp at h1
  have h2 : (l.map f)[pre.length]? = some u := by rw [e]; simp
  rw [List.getElem?_map] at h2
  obtain ⟨x, hx, hu⟩ := Option.map_eq_some_iff.mp h2
  refine ⟨x, hx, hu.symm, ?_, ?_⟩
  · have := congrArg (List.take pre.length) e
    simpa [List.map_take] using this.symm
  · have hl : pre.length < l.length := by omega
    have : l[pre.length] = x := by rw [List.getElem?_eq_getElem hl] at hx; simpa using hx
    rw [← this, List.getElem_cons_drop, List.take_append_drop]
theorem take_range_succ {α : Type} {f : Nat → α} {k : Nat} : (List.range (k + 1)).map f = (List.range k).map f ++ [f k] := by
  rw [List.range_succ, List.map_append]; rfl
theorem pieces_of_eq (n h) (r : Row) (h1 : r.times ≤ 30) (h2 : r.name.length ≤ 100) (h3 : 0 ≤ r.times) (h4 : -1000 < r.every) (h5 : r.every < 1000) :
    callF tab fnT (n+1) 20 [rowU r] h = .ok (.ref h.length) (h ++ [.lst ((pcs r).map pcU)]) := by
  apply eq_of_post
  rw [q_callF rfl rfl]
  dsimp! only [f20, b20, rowU, asgF, evP, evPs]
  refine forL_post (fun pre e h' => ∃ x y : Option U, e = [some (rowU r), some (.str r.name), some (.int r.first), some (.int r.window), some (.int r.len), some (.int r.every), some (.int r.times), some (.ref h.length), x, y] ∧
    h' = h ++ [.lst ((List.range pre.length).map fun k => pcU (pc r k))]) ⟨none, none, by simp [rowU], by simp⟩ ?_ ?_
  · rintro pre u rest e h' hs ⟨x, y, rfl, rfl⟩
    obtain ⟨rfl, hl⟩ := range_split hs
    obtain ⟨hk1, hk2⟩ := sInt_small pre.length (by omega)
    refine ⟨gd_nil, ?_⟩
    dsimp! only [forB_name]
    exact ⟨_, _, rfl, by simp [take_range_succ, pc, pcU]⟩
  · rintro e h' ⟨x, y, rfl, rfl⟩
    refine ⟨gd_nil, ?_⟩
    dsimp! only []
    simp [pcs]
end K78
namespace K78
open Ev
def LET : List Nat := [97, 98, 99, 100, 101, 102, 103, 104, 105, 106, 107, 108, 109, 110, 111, 112, 113, 114, 115, 116, 117, 118, 119, 120, 121, 122]
def FIG : List Nat := [48, 49, 50, 51, 52, 53, 54, 55, 56, 57]
def nameOk (s : List Nat) : Bool := decide (1 ≤ s.length ∧ s.length ≤ 8) && ((s[0]?).any fun c => decide (c ∈ LET)) && s.all fun c => decide (c ∈ LET ++ FIG)
theorem name_spec (n h) (s : List Nat) (hs : s.length ≤ 100000) : Post (C (n+1) 3 [.str s] h) (fun u h' => u = .bl (nameOk s) ∧ ∃ j, h' = h ++ j) nox := by
  rw [q_callF rfl rfl]
  dsimp! only [f3, b3]
  refine Br.dec (fun a => ?_) (fun a => ?_)
  · dsimp! only []
    refine Br.dec (fun b => ?_) (fun b => ?_)
    · cases s with
      | nil => simp at a
      | cons c r =>
        dsimp! only []
        refine Br.dec (fun d => ?_) (fun d => ?_)
        · dsimp! only []
          refine lc_map (c :: r) (fun c => .str [c]) (fun c => .bl (decide (c ∈ LET ++ FIG))) rfl rfl (fun _ => gd_nil) (by omega) (fun x hx out => ?_) ?_
          · dsimp! only [lcF_name, LET, FIG]
            congr
          · dsimp! only [bools_map]
            refine ⟨?_, _, rfl⟩
            have d' : c ∈ LET := d
            have e2 : nameOk (c :: r) = ((c :: r).map fun c => decide (c ∈ LET ++ FIG)).all id := by
              unfold nameOk
              rw [decide_eq_true (show 1 ≤ (c :: r).length ∧ (c :: r).length ≤ 8 by omega), List.all_map]
              simp only [List.getElem?_cons_zero, Option.any_some, decide_eq_true d', Bool.true_and]
              rfl
            rw [e2]
        · dsimp! only [d]
          refine ⟨?_, [], by simp⟩
          have d' : ¬ c ∈ LET := d
          simp [nameOk, d']
    · dsimp! only [b]
      refine ⟨?_, [], by simp⟩
      have b' : ¬ s.length ≤ 8 := by omega
      simp [nameOk, b']
  · dsimp! only [a]
    refine ⟨?_, [], by simp⟩
    have b' : ¬ 1 ≤ s.length := by omega
    simp [nameOk, b']
end K78
namespace K78
open Ev
structure Good (r : Row) : Prop where
  nm : nameOk r.name = true
  nl : r.name.length ≤ 6
  f0 : 0 ≤ r.first
  f1 : r.first ≤ 199
  w0 : 1 ≤ r.window
  w1 : r.window ≤ 200
  l0 : 1 ≤ r.len
  l1 : r.len ≤ 12
  e0 : 1 ≤ r.every
  e1 : r.every ≤ 200
  t0 : 1 ≤ r.times
  t1 : r.times ≤ 30
  last : r.first + (r.times - 1) * r.every + r.window - 1 ≤ 199
theorem Good.ne {r : Row} (g : Good r) : 1 ≤ r.name.length := by
  have := g.nm
  unfold nameOk at this
  simp only [Bool.and_eq_true, decide_eq_true_eq] at this
  exact this.1.1.1
theorem pcs_len (r : Row) : (pcs r).length = r.times.toNat := by simp [pcs]
theorem pcs_last {r : Row} (t0 : 1 ≤ r.times) : ((pcs r).map pcU)[(-1 + (r.times.toNat : Int)).toNat]? = some (pcU (pc r (r.times.toNat - 1))) := by
  have e : (-1 + (r.times.toNat : Int)).toNat = r.times.toNat - 1 := by omega
  rw [e]
  simp [pcs, List.getElem?_range (show r.times.toNat - 1 < r.times.toNat by omega)]
/-- the pieces' names -/
def pnames (r : Row) : List (List Nat) := (pcs r).map (·.name)
/-! ### what is wrong with a row -/
def FORM : List Nat := [102, 111, 114, 109]
def NAME : List Nat := [110, 97, 109, 101]
def DOUBLE : List Nat := [100, 111, 117, 98, 108, 101]
def FIRST : List Nat := [102, 105, 114, 115, 116]
def WINDOW : List Nat := [119, 105, 110, 100, 111, 119]
def LENGTH : List Nat := [108, 101, 110, 103, 116, 104]
def EVERY : List Nat := [101, 118, 101, 114, 121]
def TIMES : List Nat := [116, 105, 109, 101, 115]
def LAST : List Nat := [108, 97, 115, 116]
def MEETS : List Nat := [109, 101, 101, 116, 115]
def TOGETHER : List Nat := [116, 111, 103, 101, 116, 104, 101, 114]
def oU : Option (List Nat) → U
  | none => .non
  | some w => .str w
def oS : Option (List Nat) → U
  | none => .str []
  | some w => .str w
def rngF (b c d e f : U) : Option (List Nat) :=
  if within b 0 199 then if within c 1 200 then if within d 1 12 then if within e 1 200 then if within f 1 30 then none else some TIMES else some EVERY else some LENGTH else some WINDOW else some FIRST
def nmF (u : U) : Bool := match u with | .str s => nameOk s && decide (s.length ≤ 6) | _ => false
def strO : U → List Nat
  | .str s => s
  | _ => []
def six (ik : List Nat → Bool) (a b c d e f : U) : Option (List Nat) := if nmF a then if ik (strO a) then some DOUBLE else rngF b c d e f else some NAME
def rf1 (ik : List Nat → Bool) (u : U) : Option (List Nat) :=
  match u with
  | .tup [a, b, c, d, e, f] => six ik a b c d e f
  | _ => some FORM
def intO : U → Int
  | .int i => i
  | _ => 0
def toRow (u : U) : Row := match u with
  | .tup [a, b, c, d, e, f] => ⟨strO a, intO b, intO c, intO d, intO e, intO f⟩
  | _ => ⟨[], 0, 0, 0, 0, 0⟩
def meetB (rows : List Row) (r : Row) : Bool := (pnames r).any fun s => decide (s ∈ rows.flatMap pnames)
def rf2 (rows : List Row) (r : Row) : Option (List Nat) :=
  if 199 < r.first + (r.times - 1) * r.every + r.window - 1 then some LAST
  else if meetB rows r then some MEETS
  else if 30 < (rows.flatMap pnames).length + (pnames r).length then some TOGETHER else none
def inN (rows : List Row) (s : List Nat) : Bool := decide (s ∈ rows.map (·.name))
def rowF (rows : List Row) (u : U) : Option (List Nat) :=
  match rf1 (inN rows) u with
  | some w => some w
  | none => rf2 rows (toRow u)
theorem within_iff {u : U} {a b : Int} : within u a b = true ↔ ∃ i, u = .int i ∧ a ≤ i ∧ i ≤ b := by
  cases u <;> simp [within]
theorem toRow_rowU (r : Row) : toRow (rowU r) = r := rfl
theorem rngF_none {b c d e f : U} (h : rngF b c d e f = none) : within b 0 199 = true ∧ within c 1 200 = true ∧ within d 1 12 = true ∧ within e 1 200 = true ∧ within f 1 30 = true := by
  unfold rngF at h
  repeat' split at h
  all_goals first | (cases h; done) | skip
  exact ⟨by assumption, by assumption, by assumption, by assumption, by assumption⟩
theorem six_none {ik a b c d e f} (h : six ik a b c d e f = none) : nmF a = true ∧ ik (strO a) = false ∧ rngF b c d e f = none := by
  unfold six at h
  split at h
  · split at h
    · cases h
    · rename_i h1 h2
      exact ⟨h1, by simpa using h2, h⟩
  · cases h
structure Good1 (r : Row) : Prop where
  nm : nameOk r.name = true
  nl : r.name.length ≤ 6
  f0 : 0 ≤ r.first
  f1 : r.first ≤ 199
  w0 : 1 ≤ r.window
  w1 : r.window ≤ 200
  l0 : 1 ≤ r.len
  l1 : r.len ≤ 12
  e0 : 1 ≤ r.every
  e1 : r.every ≤ 200
  t0 : 1 ≤ r.times
  t1 : r.times ≤ 30
theorem Good1.to {r : Row} (g : Good1 r) (h : ¬ 199 < r.first + (r.times - 1) * r.every + r.window - 1) : Good r := ⟨g.nm, g.nl, g.f0, g.f1, g.w0, g.w1, g.l0, g.l1, g.e0, g.e1, g.t0, g.t1, by omega⟩
theorem Good.to1 {r : Row} (g : Good r) : Good1 r := ⟨g.nm, g.nl, g.f0, g.f1, g.w0, g.w1, g.l0, g.l1, g.e0, g.e1, g.t0, g.t1⟩
theorem six_inv {ik a b c d e f} (h : six ik a b c d e f = none) : ∃ r : Row, a = .str r.name ∧ b = .int r.first ∧ c = .int r.window ∧ d = .int r.len ∧ e = .int r.every ∧ f = .int r.times ∧ Good1 r ∧ ik r.name = false := by
  obtain ⟨h1, h2, h3⟩ := six_none h
  obtain ⟨g1, g2, g3, g4, g5⟩ := rngF_none h3
  obtain ⟨i1, rfl, p1, q1⟩ := within_iff.mp g1
  obtain ⟨i2, rfl, p2, q2⟩ := within_iff.mp g2
  obtain ⟨i3, rfl, p3, q3⟩ := within_iff.mp g3
  obtain ⟨i4, rfl, p4, q4⟩ := within_iff.mp g4
  obtain ⟨i5, rfl, p5, q5⟩ := within_iff.mp g5
  cases a with
  | str s =>
    simp only [nmF, Bool.and_eq_true, decide_eq_true_eq] at h1
    exact ⟨⟨s, i1, i2, i3, i4, i5⟩, rfl, rfl, rfl, rfl, rfl, rfl, ⟨h1.1, h1.2, p1, q1, p2, q2, p3, q3, p4, q4, p5, q5⟩, h2⟩
  | _ => cases h1
theorem rf1_inv {ik u} (h : rf1 ik u = none) : ∃ r : Row, u = rowU r ∧ Good1 r ∧ ik r.name = false := by
  unfold rf1 at h
  split at h
  · obtain ⟨r, rfl, rfl, rfl, rfl, rfl, rfl, g, k⟩ := six_inv h
    exact ⟨r, rfl, g, k⟩
  · cases h
theorem rf1_row {ik} {r : Row} (g : Good1 r) (h : ik r.name = false) : rf1 ik (rowU r) = none := by
  have w1 : within (.int r.first) 0 199 = true := by simp [within, g.f0, g.f1]
  have w2 : within (.int r.window) 1 200 = true := by simp [within, g.w0, g.w1]
  have w3 : within (.int r.len) 1 12 = true := by simp [within, g.l0, g.l1]
  have w4 : within (.int r.every) 1 200 = true := by simp [within, g.e0, g.e1]
  have w5 : within (.int r.times) 1 30 = true := by simp [within, g.t0, g.t1]
  show six ik _ _ _ _ _ _ = none
  simp [six, nmF, strO, g.nm, g.nl, h, rngF, w1, w2, w3, w4, w5]
/-- a thing whose kind is known, and the kinds of what is within -/
structure Rowy (h : AH) (u : U) : Prop where
  k : Kno h u
  ks : ∀ xs, u = .tup xs → ∀ x ∈ xs, Kno h x ∧ ∀ s, x = .str s → s.length ≤ 1000
theorem Rowy.app {h u} (r : Rowy h u) (j : AH) : Rowy (h ++ j) u := ⟨r.k.app j, fun xs e x m => ⟨(r.ks xs e x m).1.app j, (r.ks xs e x m).2⟩⟩
theorem isname_spec (n h u) (k : Kno h u) (hs : ∀ s, u = .str s → s.length ≤ 1000) : Post (C (n+1) 3 [u] h) (fun v h' => v = .bl (match u with | .str s => nameOk s | _ => false) ∧ ∃ j, h' = h ++ j) nox := by
  cases hu : isStrU u with
  | true =>
    obtain ⟨z, rfl⟩ : ∃ z, u = .str z := by cases u <;> first | exact ⟨_, rfl⟩ | cases hu
    exact name_spec n h z (by have := hs z rfl; omega)
  | false =>
    rw [q_callF rfl rfl]
    cases u with
    | str _ => cases hu
    | _ => dsimp! only [f3, b3]; first | exact ⟨rfl, [], by simp⟩ | exact ⟨[], by simp⟩
theorem six_list {xs : List U} (h : (xs.length : Int) = 6) : ∃ a b c d e f, xs = [a, b, c, d, e, f] := by
  match xs, h with
  | [a, b, c, d, e, f], _ => exact ⟨a, b, c, d, e, f, rfl⟩
  | [], h => simp at h
  | [_], h => simp at h
  | [_, _], h => simp at h
  | [_, _, _], h => simp at h
  | [_, _, _, _], h => simp at h
  | [_, _, _, _, _], h => simp at h
  | _ :: _ :: _ :: _ :: _ :: _ :: _ :: _, h => simp at h; omega
theorem rf1_form {ik} {xs : List U} (h : ¬ (xs.length : Int) = 6) : rf1 ik (.tup xs) = some FORM := by
  unfold rf1
  split
  · rename_i e; cases e; exact absurd rfl h
  · rfl
/-- the program's look at a row, but for the pieces that others have -/
def rf3 (ik : List Nat → Bool) (u : U) : Option (List Nat) := match rf1 ik u with
  | some w => some w
  | none => if 199 < (toRow u).first + ((toRow u).times - 1) * (toRow u).every + (toRow u).window - 1 then some LAST else none
theorem rf3_six {ik a b c d e f w} (q : six ik a b c d e f = some w) : rf3 ik (.tup [a, b, c, d, e, f]) = some w := by
  have z : rf1 ik (.tup [a, b, c, d, e, f]) = some w := q
  unfold rf3
  rw [z]
theorem rf3_none {ik} {r : Row} (q : rf1 ik (rowU r) = none) : rf3 ik (rowU r) = if 199 < r.first + (r.times - 1) * r.every + r.window - 1 then some LAST else none := by
  unfold rf3
  rw [q]
  rfl
theorem rowfault_spec (n h kd kvs u) (hk : h[kd]? = some (.dic kvs)) (R : Rowy h u) :
    Post (C (n+3) 21 [.ref kd, u] h) (fun v h' => v = oU (rf3 (fun s => (valD kvs (.inr s)).isSome) u) ∧ ∃ j, h' = h ++ j) nox := by
  have hkl := lt_of_at hk
  have kR := R.k
  rw [q_callF rfl rfl]
  by_cases hu : ∃ xs, u = .tup xs
  case neg =>
    cases u with
    | tup xs => exact absurd ⟨_, rfl⟩ hu
    | _ => dsimp! only [f21, b21]; first | exact ⟨rfl, [], by simp⟩ | exact ⟨[], by simp⟩
  obtain ⟨xs, rfl⟩ := hu
  dsimp! only [f21, b21]
  refine Br.dec (fun hl' => ?yes) (fun hl => ?nope)
  case nope =>
    dsimp! only []
    refine ⟨?_, [], by simp⟩
    simp [rf3, rf1_form hl, oU, FORM]
  obtain ⟨a, b, c, d, e, f, rfl⟩ := six_list hl'
  clear hl' kR
  have ka := R.ks _ rfl a (by simp)
  have kb := (R.ks _ rfl b (by simp)).1
  have kc := (R.ks _ rfl c (by simp)).1
  have kd' := (R.ks _ rfl d (by simp)).1
  have ke := (R.ks _ rfl e (by simp)).1
  have kf := (R.ks _ rfl f (by simp)).1
  dsimp! only []
  refine Post.mono (isname_spec (n+1) h a ka.1 ka.2) ?_ (fun _ _ _ k => k.elim)
  rintro v h' ⟨rfl, j, rfl⟩
  have kvs' : (h ++ j)[kd]? = some (.dic kvs) := by rw [List.getElem?_append_left hkl, hk]
  have kb' := kb.app j
  have kc' := kc.app j
  have kd'' := kd'.app j
  have ke' := ke.app j
  have kf' := kf.app j
  generalize hH : h ++ j = H at *
  have fin : ∀ (w : Option (List Nat)) (j' : AH), rf3 (fun s => (valD kvs (.inr s)).isSome) (.tup [a, b, c, d, e, f]) = w → (oU w = oU (rf3 (fun s => (valD kvs (.inr s)).isSome) (.tup [a, b, c, d, e, f])) ∧ ∃ j, H ++ j' = h ++ j) := fun w j' q => ⟨by rw [q], j ++ j', by rw [← hH, List.append_assoc]⟩
  have fin0 : ∀ (w : Option (List Nat)), rf3 (fun s => (valD kvs (.inr s)).isSome) (.tup [a, b, c, d, e, f]) = w → (oU w = oU (rf3 (fun s => (valD kvs (.inr s)).isSome) (.tup [a, b, c, d, e, f])) ∧ ∃ j, H = h ++ j) := fun w q => ⟨by rw [q], j, hH.symm⟩
  have bad : ∀ w, six (fun s => (valD kvs (.inr s)).isSome) a b c d e f = some w → rf3 (fun s => (valD kvs (.inr s)).isSome) (.tup [a, b, c, d, e, f]) = some w := fun w q => rf3_six q
  cases hn : nmF a with
  | false =>
    have q := bad NAME (by simp [six, hn])
    cases a with
    | str s =>
      cases hz : nameOk s with
      | false => dsimp! only [hz]; exact fin0 (some NAME) q
      | true =>
        have h6 : (6 : Int) < (s.length : Int) := by
          simp only [nmF, hz, Bool.true_and, decide_eq_false_iff_not] at hn; omega
        have ka' := ka.2 s rfl
        dsimp! only [hz, h6]
        exact fin0 (some NAME) q
    | _ => dsimp! only []; exact fin0 (some NAME) q
  | true =>
  obtain ⟨s, rfl⟩ : ∃ s, a = .str s := by cases a <;> first | exact ⟨_, rfl⟩ | cases hn
  have hn' := hn
  simp only [nmF, Bool.and_eq_true, decide_eq_true_eq] at hn'
  have h6 : ¬ (6 : Int) < (s.length : Int) := by omega
  have ka' := ka.2 s rfl
  have hn1 := hn'.1
  dsimp! only [hn1, h6, kvs']
  cases hik : (valD kvs (.inr s)).isSome with
  | true =>
    dsimp! only []
    exact fin0 (some DOUBLE) (bad DOUBLE (by simp [six, hn, hik, strO]))
  | false =>
  dsimp! only [q_forCons, q_forNil, forB_tup, evP, evPs, gd_nil, within_eq, List.zipWith_cons_cons, List.zipWith_nil_left]
  cases w1 : within b 0 199 with
  | false => dsimp! only []; exact fin0 (some FIRST) (bad FIRST (by simp [six, hn, hik, strO, rngF, w1]))
  | true =>
  dsimp! only [q_forCons, q_forNil, forB_tup, evP, evPs, gd_nil, within_eq]
  cases w2 : within c 1 200 with
  | false => dsimp! only []; exact fin0 (some WINDOW) (bad WINDOW (by simp [six, hn, hik, strO, rngF, w1, w2]))
  | true =>
  dsimp! only [q_forCons, q_forNil, forB_tup, evP, evPs, gd_nil, within_eq]
  cases w3 : within d 1 12 with
  | false => dsimp! only []; exact fin0 (some LENGTH) (bad LENGTH (by simp [six, hn, hik, strO, rngF, w1, w2, w3]))
  | true =>
  dsimp! only [q_forCons, q_forNil, forB_tup, evP, evPs, gd_nil, within_eq]
  cases w4 : within e 1 200 with
  | false => dsimp! only []; exact fin0 (some EVERY) (bad EVERY (by simp [six, hn, hik, strO, rngF, w1, w2, w3, w4]))
  | true =>
  dsimp! only [q_forCons, q_forNil, forB_tup, evP, evPs, gd_nil, within_eq]
  cases w5 : within f 1 30 with
  | false => dsimp! only []; exact fin0 (some TIMES) (bad TIMES (by simp [six, hn, hik, strO, rngF, w1, w2, w3, w4, w5]))
  | true =>
  have h0 : six (fun s => (valD kvs (.inr s)).isSome) (.str s) b c d e f = none := by simp [six, hn, hik, strO, rngF, w1, w2, w3, w4, w5]
  obtain ⟨r, e1, rfl, rfl, rfl, rfl, rfl, g, _⟩ := six_inv h0
  cases e1
  have g1 := g.nl
  have g2 := g.t0
  have g3 := g.t1
  have g4 := g.e0
  have g5 := g.e1
  have pe := pieces_of_eq (n+1) H r (by omega) (by omega) (by omega) (by omega) (by omega)
  simp only [rowU] at pe
  have el : ((r.times.toNat - 1 : Nat) : Int) = r.times - 1 := by omega
  have e3 : rf3 (fun s => (valD kvs (.inr s)).isSome) (.tup [.str r.name, .int r.first, .int r.window, .int r.len, .int r.every, .int r.times]) = if 199 < r.first + (r.times - 1) * r.every + r.window - 1 then some LAST else none := rf3_none h0
  dsimp! only [q_forNil, gd_nil, pe, pcs_len, pcs_last g.t0, pcU, pc, el]
  refine Br.dec (fun x => ?_) (fun x => ?_)
  · dsimp! only []
    exact fin (some LAST) _ (by rw [e3, if_pos x])
  · dsimp! only []
    exact fin none _ (by rw [e3, if_neg x])
end K78
namespace K78
open Ev
/-! ### dicts, numbered items -/
theorem valD_none {kvs : List (DK × U)} {k : DK} (h : ∀ kv ∈ kvs, kv.1 ≠ k) : valD kvs k = none := by
  unfold valD
  rw [List.find?_eq_none.mpr]
  · rfl
  · intro x hx; simpa using h x hx
theorem putD_new {kvs : List (DK × U)} {k : DK} {v : U} (h : ∀ kv ∈ kvs, kv.1 ≠ k) : putD kvs k v = kvs ++ [(k, v)] := by
  unfold putD
  rw [if_neg]
  intro z
  obtain ⟨x, hx, e⟩ := List.any_eq_true.mp z
  exact h x hx (by simpa using e)
theorem numbered_len : ∀ (xs : List U) (k : Nat), (numbered k xs).length = xs.length
  | [], _ => rfl
  | _ :: r, k => by simp [numbered, numbered_len r]
theorem numbered_at : ∀ (xs : List U) (k i : Nat), (numbered k xs)[i]? = (xs[i]?).map fun x => .tup [.int ((k + i : Nat) : Int), x]
  | [], _, _ => by simp [numbered]
  | x :: r, k, 0 => by simp [numbered]
  | x :: r, k, i + 1 => by
    simp only [numbered, List.getElem?_cons_succ]
    rw [numbered_at r (k + 1) i]
    have : k + 1 + i = k + (i + 1) := by omega
    rw [this]
theorem num_split {α : Type} {f : α → U} {l : List α} {pre rest : List U} {u : U} (e : numbered 0 (l.map f) = pre ++ u :: rest) : ∃ x, l[pre.length]? = some x ∧ u = .tup [.int (pre.length : Int), f x] ∧ l = l.take pre.length ++ x :: l.drop (pre.length + 1) := by
  have h2 : (numbered 0 (l.map f))[pre.length]? = some u := by rw [e]; simp
  rw [numbered_at, List.getElem?_map] at h2
  obtain ⟨y, hy, hu⟩ := Option.map_eq_some_iff.mp h2
  obtain ⟨x, hx, hxy⟩ := Option.map_eq_some_iff.mp hy
  subst hxy
  refine ⟨x, hx, by rw [← hu]; simp, ?_⟩
  have hl : pre.length < l.length := (List.getElem?_eq_some_iff.mp hx).1
  have : l[pre.length] = x := (List.getElem?_eq_some_iff.mp hx).2
  rw [← this, List.getElem_cons_drop, List.take_append_drop]
/-! ### a series -/
structure Goods (rows : List Row) : Prop where
  all : ∀ r ∈ rows, Good r
  nd : (rows.map (·.name)).Nodup
  pn : (rows.flatMap pnames).Nodup
  pl : (rows.flatMap pnames).length ≤ 30
def kn (rows : List Row) : List (DK × U) := rows.map fun r => (.inr r.name, rowU r)
def hk (r : Row) (k : Nat) : DK × U := (.inr (r.name ++ sInt k), .tup [.str r.name, .int (k : Nat)])
def heR (r : Row) : List (DK × U) := (List.range r.times.toNat).map (hk r)
def he (rows : List Row) : List (DK × U) := rows.flatMap heR
structure Ser (h : AH) (s kd hd : Nat) (rows : List Row) : Prop where
  self : h[s]? = some (.ins 6 [(20, .ref kd), (19, .ref hd)])
  known : h[kd]? = some (.dic (kn rows))
  held : h[hd]? = some (.dic (he rows))
theorem heR_keys {r : Row} {kv : DK × U} (h : kv ∈ heR r) : ∃ s ∈ pnames r, kv.1 = .inr s := by
  unfold heR at h
  obtain ⟨k, hk, rfl⟩ := List.mem_map.mp h
  exact ⟨_, List.mem_map.mpr ⟨pc r k, List.mem_map.mpr ⟨k, hk, rfl⟩, rfl⟩, rfl⟩
theorem he_keys {rows : List Row} {kv : DK × U} (h : kv ∈ he rows) : ∃ s ∈ rows.flatMap pnames, kv.1 = .inr s := by
  unfold he at h
  obtain ⟨r, hr, h⟩ := List.mem_flatMap.mp h
  obtain ⟨s, hs, e⟩ := heR_keys h
  exact ⟨s, List.mem_flatMap.mpr ⟨r, hr, hs⟩, e⟩
theorem heR_len (r : Row) : (heR r).length = (pnames r).length := by simp [heR, pnames, pcs]
theorem he_len : ∀ rows : List Row, (he rows).length = (rows.flatMap pnames).length
  | [] => rfl
  | r :: rows => by simp [he, List.flatMap_cons, heR_len]; try exact he_len rows
theorem Goods.len {rows : List Row} (g : Goods rows) : rows.length ≤ 30 := by
  have : ∀ l : List Row, (∀ r ∈ l, Good r) → l.length ≤ (l.flatMap pnames).length := by
    intro l
    induction l with
    | nil => intro _; simp
    | cons x l ih =>
      intro hl
      have := ih (fun r hr => hl r (by simp [hr]))
      have h5 := (hl x (by simp)).t0
      simp [List.flatMap_cons, pnames, pcs] at this ⊢
      omega
  have := this rows g.all
  have := g.pl
  omega
theorem Goods.mid {a b : List Row} {r : Row} (g : Goods (a ++ r :: b)) : Good r ∧ r.name ∉ a.map (·.name) ∧ (∀ s ∈ pnames r, s ∉ a.flatMap pnames) ∧ (a.flatMap pnames).length + (pnames r).length ≤ 30 ∧ (pnames r).Nodup := by
  have h1 := g.nd
  have h2 := g.pn
  have h3 := g.pl
  simp only [List.map_append, List.map_cons, List.flatMap_append, List.flatMap_cons, List.length_append] at h1 h2 h3
  rw [List.nodup_append] at h1 h2
  obtain ⟨_, h2b, h2c⟩ := h2
  rw [List.nodup_append] at h2b
  refine ⟨g.all r (by simp), fun z => h1.2.2 _ z _ (by simp) rfl, fun s hs z => h2c s z s (by simp [hs]) rfl, by omega, h2b.1⟩
theorem hk_new {r : Row} (g : (pnames r).Nodup) {i : Nat} (hi : i < r.times.toNat) : ∀ kv ∈ (List.range i).map (hk r), kv.1 ≠ .inr (r.name ++ sInt i) := by
  intro kv hkv e
  obtain ⟨k, hk', rfl⟩ := List.mem_map.mp hkv
  have hk2 : k < i := List.mem_range.mp hk'
  have e2 : r.name ++ sInt k = r.name ++ sInt i := Sum.inr.inj e
  have hp : ∀ q, (hq : q < (pnames r).length) → (pnames r)[q] = r.name ++ sInt q := by intro q hq; simp [pnames, pcs, pc]
  have hl : (pnames r).length = r.times.toNat := by simp [pnames, pcs]
  have := (List.getElem_inj (i := k) (j := i) (h₀ := by omega) (h₁ := by omega) g).mp (by rw [hp, hp, e2])
  omega
/-- the program's look at a row's pieces beside those ahead -/
def mf (kvs : List (DK × U)) (r : Row) : Option (List Nat) :=
  if (pnames r).any (fun s => (valD kvs (.inr s)).isSome) then some MEETS else if 30 < (kvs.length : Int) + ((pnames r).length : Int) then some TOGETHER else none
theorem meet_gen (n h hd kvs) (r : Row) (g : Good r) (hk : h[hd]? = some (.dic kvs)) (hl : kvs.length ≤ 1000) :
    Post (C (n+2) 22 [.ref hd, rowU r] h) (fun u h' => u = oU (mf kvs r) ∧ ∃ j, h' = h ++ j) nox := by
  have hkl := lt_of_at hk
  have g1 := g.nl
  have g2 := g.t0
  have g3 := g.t1
  have g4 := g.e0
  have g5 := g.e1
  have pe := pieces_of_eq n h r (by omega) (by omega) (by omega) (by omega) (by omega)
  have pl := pcs_len r
  have e1 : (pnames r).length = (pcs r).length := by simp [pnames]
  rw [q_callF rfl rfl]
  dsimp! only [f22, b22, pe]
  refine lc_map (pcs r) pcU (fun p => .str p.name) rfl rfl (fun out => gd_at (by simp)) (by omega) (fun x hx out => ?_) ?_
  · dsimp! only [lcF_name, pcU]
  dsimp! only []
  refine lc_filter (pcs r) (fun p => .str p.name) (fun p => .str p.name) (fun p => (valD kvs (.inr p.name)).isSome) rfl rfl (fun out => by apply gd_one; dsimp! only []) (by omega) (fun x hx out => ?_) ?_
  · dsimp! only [lcF_name, hk]
    cases z : (valD kvs (.inr x.name)).isSome <;> dsimp! only []
  · cases hF : (pcs r).filter (fun p => (valD kvs (.inr p.name)).isSome) with
    | nil =>
      have e0 : (pnames r).any (fun s => (valD kvs (.inr s)).isSome) = false := by
        rw [List.any_eq_false]
        intro s hs
        obtain ⟨p, hp, rfl⟩ := List.mem_map.mp hs
        have := List.filter_eq_nil_iff.mp hF p hp
        simpa using this
      dsimp! only [hk, List.map_nil]
      refine Br.dec (fun x => ?_) (fun x => ?_)
      · dsimp! only []
        refine ⟨?_, _, rfl⟩
        unfold mf
        rw [e0, if_neg (by simp), if_pos (by omega)]
        rfl
      · dsimp! only []
        refine ⟨?_, _, rfl⟩
        unfold mf
        rw [e0, if_neg (by simp), if_neg (by omega)]
        rfl
    | cons x r' =>
      have e0 : (pnames r).any (fun s => (valD kvs (.inr s)).isSome) = true := by
        have hm : x ∈ (pcs r).filter (fun p => (valD kvs (.inr p.name)).isSome) := by rw [hF]; simp
        obtain ⟨hm1, hm2⟩ := List.mem_filter.mp hm
        exact List.any_eq_true.mpr ⟨x.name, List.mem_map.mpr ⟨x, hm1, rfl⟩, hm2⟩
      dsimp! only [List.map_cons]
      refine ⟨?_, _, rfl⟩
      unfold mf
      rw [e0, if_pos rfl]
      rfl
/-! ### what is wrong with rows -/
def serF (rows : List Row) : List U → Option (Nat × List Nat)
  | [] => none
  | u :: us => match rowF rows u with
    | some w => some (rows.length, w)
    | none => serF (rows ++ [toRow u]) us
theorem valD_some {kvs : List (DK × U)} {k : DK} : (valD kvs k).isSome = true ↔ ∃ kv ∈ kvs, kv.1 = k := by
  unfold valD
  rw [Option.isSome_map, List.find?_isSome]
  simp
theorem kn_in {rows : List Row} {s : List Nat} : (valD (kn rows) (.inr s)).isSome = inN rows s := by
  rw [Bool.eq_iff_iff, valD_some]
  unfold inN kn
  simp only [List.mem_map, decide_eq_true_eq]
  constructor
  · rintro ⟨kv, ⟨r, hr, rfl⟩, e⟩
    exact ⟨r, hr, Sum.inr.inj e⟩
  · rintro ⟨r, hr, rfl⟩
    exact ⟨_, ⟨r, hr, rfl⟩, rfl⟩
theorem heR_has {r : Row} {s : List Nat} (h : s ∈ pnames r) : ∃ kv ∈ heR r, kv.1 = .inr s := by
  obtain ⟨p, hp, rfl⟩ := List.mem_map.mp h
  obtain ⟨k, hk, rfl⟩ := List.mem_map.mp hp
  exact ⟨_, List.mem_map.mpr ⟨k, hk, rfl⟩, rfl⟩
theorem he_in {rows : List Row} {s : List Nat} : (valD (he rows) (.inr s)).isSome = decide (s ∈ rows.flatMap pnames) := by
  rw [Bool.eq_iff_iff, valD_some, decide_eq_true_eq]
  constructor
  · rintro ⟨kv, hkv, e⟩
    obtain ⟨z, hz, e2⟩ := he_keys hkv
    rw [e2] at e
    cases e
    exact hz
  · intro h
    obtain ⟨r, hr, hs⟩ := List.mem_flatMap.mp h
    obtain ⟨kv, h1, h2⟩ := heR_has hs
    exact ⟨kv, List.mem_flatMap.mpr ⟨r, hr, h1⟩, h2⟩
theorem mf_he (rows : List Row) (r : Row) (h : ¬ 199 < r.first + (r.times - 1) * r.every + r.window - 1) : mf (he rows) r = rf2 rows r := by
  unfold mf rf2 meetB
  rw [if_neg h, he_len]
  simp only [he_in]
  congr 1
  by_cases q : 30 < (rows.flatMap pnames).length + (pnames r).length
  · rw [if_pos q, if_pos (by omega)]
  · rw [if_neg q, if_neg (by omega)]
theorem sInt_inj : ∀ i < 40, ∀ j < 40, sInt (i : Nat) = sInt (j : Nat) → i = j := by decide +kernel
theorem pnames_nd {r : Row} (g : Good1 r) : (pnames r).Nodup := by
  have e : pnames r = (List.range r.times.toNat).map fun k => r.name ++ sInt (k : Nat) := by simp [pnames, pcs, pc]
  rw [e]
  have h3 := g.t1
  refine List.pairwise_map.mpr (List.Pairwise.imp_of_mem (fun {i j} hi hj hlt e => ?_) List.pairwise_lt_range)
  have hi' := List.mem_range.mp hi
  have hj' := List.mem_range.mp hj
  have := sInt_inj i (by omega) j (by omega) (List.append_cancel_left e)
  omega
theorem Goods.snoc {rows : List Row} {r : Row} (g : Goods rows) (gr : Good1 r) (hn : inN rows r.name = false) (h : rf2 rows r = none) : Goods (rows ++ [r]) := by
  unfold rf2 at h
  split at h
  · cases h
  rename_i h1
  split at h
  · cases h
  rename_i h2
  split at h
  · cases h
  rename_i h3
  refine ⟨fun x hx => ?_, ?_, ?_, ?_⟩
  · rcases List.mem_append.mp hx with q | q
    · exact g.all x q
    · rw [List.mem_singleton.mp q]; exact gr.to h1
  · rw [List.map_append, List.nodup_append]
    refine ⟨g.nd, by simp, fun x hx y hy e => ?_⟩
    simp only [List.map_cons, List.map_nil, List.mem_singleton] at hy
    subst hy
    subst e
    simp [inN] at hn
    obtain ⟨z, hz, e⟩ := List.mem_map.mp hx
    exact hn z hz e
  · rw [List.flatMap_append, List.nodup_append]
    refine ⟨g.pn, by simpa using pnames_nd gr, fun x hx y hy e => ?_⟩
    subst e
    have : meetB rows r = true := List.any_eq_true.mpr ⟨x, by simpa using hy, by simpa using hx⟩
    exact h2 this
  · simp only [List.flatMap_append, List.flatMap_cons, List.flatMap_nil, List.length_append, List.append_nil]; omega
theorem rowF_good {rows : List Row} {u : U} (g : Goods rows) (h : rowF rows u = none) : ∃ r, u = rowU r ∧ toRow u = r ∧ Goods (rows ++ [r]) := by
  unfold rowF at h
  cases z : rf1 (inN rows) u with
  | some w => rw [z] at h; cases h
  | none =>
    rw [z] at h
    obtain ⟨r, rfl, g1, hn⟩ := rf1_inv z
    exact ⟨r, rfl, rfl, g.snoc g1 hn h⟩
theorem rowF_row {a b : List Row} {r : Row} (g : Goods (a ++ r :: b)) : rowF a (rowU r) = none := by
  obtain ⟨gr, gn, gp, gl, gd⟩ := g.mid
  have h1 : rf1 (inN a) (rowU r) = none := rf1_row gr.to1 (by simpa [inN] using gn)
  unfold rowF
  rw [h1]
  show rf2 a r = none
  have := gr.last
  unfold rf2
  rw [if_neg (by omega), if_neg, if_neg (by omega)]
  intro z
  obtain ⟨s, hs, e⟩ := List.any_eq_true.mp z
  exact gp s hs (by simpa using e)
theorem serF_rows : ∀ (b a : List Row) (us : List U), Goods (a ++ b) → serF a (b.map rowU ++ us) = serF (a ++ b) us
  | [], a, us, _ => by simp
  | r :: b, a, us, g => by
    rw [List.map_cons, List.cons_append]
    have e : serF a (rowU r :: (b.map rowU ++ us)) = serF (a ++ [r]) (b.map rowU ++ us) := by
      show (match rowF a (rowU r) with | some w => some (a.length, w) | none => serF (a ++ [toRow (rowU r)]) (b.map rowU ++ us)) = _
      rw [rowF_row g]
      rfl
    rw [e, serF_rows b (a ++ [r]) us (by simpa using g)]
    simp
theorem serF_good : ∀ {us : List U} {a : List Row}, Goods a → serF a us = none → ∃ b : List Row, us = b.map rowU ∧ Goods (a ++ b)
  | [], a, g, _ => ⟨[], rfl, by simpa using g⟩
  | u :: us, a, g, h => by
    unfold serF at h
    cases z : rowF a u with
    | some w => rw [z] at h; cases h
    | none =>
      rw [z] at h
      obtain ⟨r, rfl, e, g2⟩ := rowF_good g z
      rw [e] at h
      obtain ⟨b, rfl, g3⟩ := serF_good g2 h
      exact ⟨r :: b, rfl, by simpa using g3⟩
end K78
namespace K78
open Ev
theorem Kno.ins {h h' : AH} {u : U} {s c : Nat} {fs} (k : Kno h u) (e : h[s]? = some (.ins c fs)) (q : Kp [s] h h') : Kno h' u := by
  obtain ⟨kd, e1, e2⟩ := k
  refine ⟨kd, ?_, e2⟩
  cases u with
  | ref n =>
    have hn : n ≠ s := by
      rintro rfl
      simp only [kdOf, e, Option.some.injEq] at e1
      exact e2 c e1.symm
    have : h'[n]? = h[n]? := by
      by_cases hl : n < h.length
      · exact q.at_ n hl (by simp [hn])
      · rw [show h[n]? = none from List.getElem?_eq_none (by omega)] at *
        simp [kdOf, List.getElem?_eq_none (show h.length ≤ n by omega)] at e1
    simp only [kdOf, this] at e1 ⊢
    exact e1
  | _ => exact e1
theorem Rowy.ins {h h' : AH} {u : U} {s c : Nat} {fs} (k : Rowy h u) (e : h[s]? = some (.ins c fs)) (q : Kp [s] h h') : Rowy h' u :=
  ⟨Kno.ins k.k e q, fun xs ex x m => ⟨Kno.ins (k.ks xs ex x m).1 e q, (k.ks xs ex x m).2⟩⟩
def MANY : List Nat := [109, 97, 110, 121]
def serT (us : List U) : Option (U × List Nat) := if 30 < us.length then some (.int 30, MANY) else (serF [] us).map fun p => (.int (p.1 : Nat), p.2)
theorem rf3_rowF {rows : List Row} {u : U} : (∃ w, rf3 (inN rows) u = some w ∧ rowF rows u = some w) ∨ (rf3 (inN rows) u = none ∧ ∃ r, u = rowU r ∧ toRow u = r ∧ Good r ∧ inN rows r.name = false ∧ rowF rows u = rf2 rows r) := by
  unfold rf3 rowF
  cases z : rf1 (inN rows) u with
  | some w => exact .inl ⟨w, rfl, rfl⟩
  | none =>
    obtain ⟨r, rfl, g, hn⟩ := rf1_inv z
    rw [toRow_rowU]
    dsimp only
    by_cases q : 199 < r.first + (r.times - 1) * r.every + r.window - 1
    · exact .inl ⟨LAST, by rw [if_pos q], by unfold rf2; rw [if_pos q]⟩
    · exact .inr ⟨by rw [if_neg q], r, rfl, rfl, g.to q, hn, rfl⟩
theorem rf3_w {ik u w} (h : rf3 ik u = some w) : w.length ≤ 100000 ∧ w ≠ [] := by
  have r : ∀ {b c d e f : U} {w}, rngF b c d e f = some w → w.length ≤ 100000 ∧ w ≠ [] := by
    intro b c d e f w h
    unfold rngF at h
    repeat' split at h
    all_goals first | (cases h; done) | (cases h; decide)
  have s : ∀ {a b c d e f : U} {w}, six ik a b c d e f = some w → w.length ≤ 100000 ∧ w ≠ [] := by
    intro a b c d e f w h
    unfold six at h
    repeat' split at h
    all_goals first | (cases h; decide) | exact r h
  have q : ∀ {w}, rf1 ik u = some w → w.length ≤ 100000 ∧ w ≠ [] := by
    intro w h
    unfold rf1 at h
    split at h
    · exact s h
    · cases h; decide
  unfold rf3 at h
  split at h
  · rename_i w' e
    cases h
    exact q e
  · split at h
    · cases h; decide
    · cases h
theorem kn_inN (rows : List Row) : (fun s => (valD (kn rows) (.inr s)).isSome) = inN rows := by funext s; exact kn_in
theorem init_gen (n H s m) (us : List U) (hs : H[s]? = some (.ins 6 [])) (hm : H[m]? = some (.lst us)) (hR : ∀ u ∈ us, Rowy H u) (hl : us.length ≤ 90000) :
    Post (C (n+4) 24 [.ref s, .ref m] H)
      (fun u h' => u = .non ∧ serT us = none ∧ ∃ rows, us = rows.map rowU ∧ Goods rows ∧ ∃ j, h' = H.set s (.ins 6 [(20, .ref H.length), (19, .ref (H.length + 1))]) ++ (.dic (kn rows) :: .dic (he rows) :: j))
      (fun c xs h' => c = 4 ∧ ∃ k w, xs = [k, .str w] ∧ serT us = some (k, w) ∧ Kp [s] H h') := by
  have hsl := lt_of_at hs
  have hml := lt_of_at hm
  have hne : s ≠ m := by rintro rfl; rw [hs] at hm; cases hm
  have km := kno_lst hm
  rw [q_callF rfl rfl]
  dsimp! only [f24, b24, hm, hs, hne]
  refine Br.dec (fun h30 => ?_) (fun h30 => ?_)
  · dsimp! only []
    exact ⟨_, _, rfl, by unfold serT; rw [if_pos (by omega)]; rfl, Kp.rfl⟩
  have eT : serT us = (serF [] us).map fun p => (.int (p.1 : Nat), p.2) := by unfold serT; rw [if_neg (by omega)]
  dsimp! only [hm, hs, hne]
  refine forL_post (fun pre e h' => ∃ (t2 t3 t4 t5 t6 : Option U) (j : AH) (rows : List Row), e = [some (.ref s), some (.ref m), t2, t3, t4, t5, t6] ∧ Goods rows ∧ rows.length = pre.length ∧ us = rows.map rowU ++ us.drop pre.length ∧
    h' = H.set s (.ins 6 [(20, .ref H.length), (19, .ref (H.length + 1))]) ++ (.dic (kn rows) :: .dic (he rows) :: j)) ⟨_, _, _, _, _, [], [], rfl, ⟨by simp, by simp, by simp, by simp⟩, rfl, by simp, rfl⟩ ?_ ?_
  · rintro pre u rest e h' hsp ⟨t2, t3, t4, t5, t6, j, rows, rfl, g, gl, gus, rfl⟩
    have hsp' : numbered 0 (us.map id) = pre ++ u :: rest := by simpa using hsp
    obtain ⟨v, hv, hu, hsplit⟩ := num_split hsp'
    subst hu
    have hvm : v ∈ us := List.mem_of_getElem? hv
    have hd : us.drop pre.length = v :: us.drop (pre.length + 1) := by
      have hl2 : pre.length < us.length := (List.getElem?_eq_some_iff.mp hv).1
      rw [List.drop_eq_getElem_cons hl2]
      congr 1
      exact (List.getElem?_eq_some_iff.mp hv).2
    have eS : serF [] us = serF rows (v :: us.drop (pre.length + 1)) := by
      conv => lhs; rw [gus, hd]
      exact serF_rows rows [] _ (by simpa using g)
    have kK : ∀ J, Kp [s] H (H.set s (.ins 6 [(20, .ref H.length), (19, .ref (H.length + 1))]) ++ J) := fun J => (Kp.mem (by simp)).trans (Kp.app _)
    have rv : ∀ J, Rowy (H.set s (.ins 6 [(20, .ref H.length), (19, .ref (H.length + 1))]) ++ J) v := fun J => Rowy.ins (hR v hvm) hs (kK J)
    refine ⟨by apply gd_one; dsimp! only [hm, hne], ?_⟩
    dsimp! only [forB_tup, evP, evPs]
    have hgl := g.len
    refine Post.mono (rowfault_spec n _ H.length (kn rows) v (by simp only [app_sat0, List.getElem?_cons_zero]) (rv _)) ?_ (fun _ _ _ k => k.elim)
    rintro u1 h1 ⟨rfl, j1, rfl⟩
    rw [kn_inN]
    rcases rf3_rowF (rows := rows) (u := v) with ⟨w, q1, q2⟩ | ⟨q1, r, rfl, _, gr, hin, q2⟩
    · have hw : w.length ≤ 100000 ∧ w ≠ [] := by
        exact rf3_w q1
      have hw1 := hw.1
      have hw2 := hw.2
      rw [q1]
      simp only [oU]
      dsimp! only [hne, hw2, isNon]
      refine ⟨_, _, rfl, ?_, kK _⟩
      rw [eT, eS]
      simp only [serF, q2, gl, Option.map_some]
    · rw [q1]
      simp only [oU]
      dsimp! only [hne]
      have hhe : (he rows).length ≤ 30 := by rw [he_len]; exact g.pl
      refine Post.mono (meet_gen (n+1) _ (H.length + 1) (he rows) r gr (by dsimp! only []) (by omega)) ?_ (fun _ _ _ k => k.elim)
      rintro u2 h2 ⟨rfl, j2, rfl⟩
      have gr1 := gr.last
      rw [mf_he rows r (by omega)]
      cases hf : rf2 rows r with
      | some w =>
        have hw : w.length ≤ 100000 ∧ w ≠ [] := by
          unfold rf2 at hf
          split at hf
          · cases hf; decide
          split at hf
          · cases hf; decide
          split at hf
          · cases hf; decide
          · cases hf
        simp only [oU]
        dsimp! only [hne, isNon]
        refine ⟨_, _, rfl, ?_, kK _⟩
        rw [eT, eS]
        simp only [serF, q2, hf, gl, Option.map_some]
      | none =>
        have q3 : rowF rows (rowU r) = none := by rw [q2, hf]
        have g2 : Goods (rows ++ [r]) := g.snoc gr.to1 hin hf
        have gm := g2.mid (b := [])
        obtain ⟨_, gn, gp, _, gd⟩ := gm
        have ek : ∀ kv ∈ kn rows, kv.1 ≠ .inr r.name := by
          intro kv hkv e
          obtain ⟨x, hx, rfl⟩ := List.mem_map.mp hkv
          exact gn (List.mem_map.mpr ⟨x, hx, Sum.inr.inj e⟩)
        have eh : ∀ s ∈ pnames r, ∀ kv ∈ he rows, kv.1 ≠ .inr s := by
          intro s hs kv hkv e
          obtain ⟨x, hx, e2⟩ := he_keys hkv
          rw [e2] at e
          cases e
          exact gp _ hs hx
        have hkn : (kn rows).length < 100000 := by simp [kn]; omega
        have g1 := gr.nl
        have g2' := gr.t0
        have g3 := gr.t1
        have g4 := gr.e0
        have g5 := gr.e1
        have pe := fun h => pieces_of_eq (n+2) h r (by omega) (by omega) (by omega) (by omega) (by omega)
        simp only [rowU] at pe
        simp only [oU]
        dsimp! only [hne, rowU, isNon, putD_new ek]
        generalize j ++ (j1 ++ j2) = J
        dsimp! only [pe]
        refine forL_post (fun pre2 e h' => ∃ (t5 t6 : Option U), e = [some (.ref s), some (.ref m), some (.int pre.length), some (rowU r), some .non, t5, t6] ∧
          h' = H.set s (.ins 6 [(20, .ref H.length), (19, .ref (H.length + 1))]) ++ (.dic (kn rows ++ [(.inr r.name, rowU r)]) :: .dic (he rows ++ (List.range pre2.length).map (hk r)) ::
            (J ++ [.lst ((pcs r).map pcU)]))) ?_ ?_ ?_
        · exact ⟨_, _, rfl, by simp [rowU]⟩
        · rintro pre2 u2 rest2 e2 h2 hsp2 ⟨t5', t6', rfl, rfl⟩
          obtain ⟨x, hx, hu2, _⟩ := num_split hsp2
          subst hu2
          obtain ⟨hx1, hx2⟩ : pre2.length < r.times.toNat ∧ x = pc r pre2.length := by
            simp only [pcs, List.getElem?_map] at hx
            obtain ⟨q, hq, rfl⟩ := Option.map_eq_some_iff.mp hx
            have := List.getElem?_eq_some_iff.mp hq
            obtain ⟨a1, a2⟩ := this
            simp at a1 a2
            exact ⟨by omega, by rw [a2]⟩
          subst hx2
          have ehn : ∀ kv ∈ he rows ++ (List.range pre2.length).map (hk r), kv.1 ≠ .inr (r.name ++ sInt pre2.length) := by
            intro kv hkv
            rcases List.mem_append.mp hkv with q | q
            · refine eh _ ?_ kv q
              exact List.mem_map.mpr ⟨pc r pre2.length, List.mem_map.mpr ⟨pre2.length, List.mem_range.mpr hx1, rfl⟩, rfl⟩
            · exact hk_new gd hx1 kv q
          have hl2 : (he rows ++ (List.range pre2.length).map (hk r)).length < 100000 := by simp; omega
          refine ⟨by apply gd_one; dsimp! only [], ?_⟩
          dsimp! only [forB_tup, evP, evPs, rowU, hne, pcU, pc, putD_new ehn]
          exact ⟨_, _, rfl, by rw [take_range_succ]; rfl⟩
        · rintro e2 h2 ⟨t5', t6', rfl, rfl⟩
          refine ⟨by apply gd_one; dsimp! only [], ?_⟩
          have el : (numbered 0 ((pcs r).map pcU)).length = r.times.toNat := by rw [numbered_len, List.length_map, pcs_len]
          dsimp! only [el]
          refine ⟨_, _, _, _, _, J ++ [.lst ((pcs r).map pcU)], rows ++ [r], rfl, g2, by simp [gl], ?_, by simp [kn, he, heR]⟩
          conv => lhs; rw [gus, hd]
          simp
  · rintro e h' ⟨t2, t3, t4, t5, t6, j, rows, rfl, g, gl, gus, rfl⟩
    have el : (numbered 0 us).length = us.length := numbered_len _ _
    have gus' : us = rows.map rowU := by rw [el, List.drop_length, List.append_nil] at gus; exact gus
    refine ⟨by apply gd_one; dsimp! only [hm, hne], ?_⟩
    dsimp! only []
    refine ⟨?_, rows, gus', g, _, rfl⟩
    rw [eT, gus']
    have := serF_rows rows [] [] (by simpa using g)
    rw [List.append_nil] at this
    rw [this]
    rfl
end K78
namespace K78
open Ev
theorem lwhole_eq (n h u a b) (k : Kno h u) : callF tab fnT (n+1) 43 [u, .int a, .int b] h = .ok (.bl (within u a b)) h := by
  apply eq_of_post
  rw [q_callF rfl rfl]
  dsimp! only [f43, b43]
  cases u <;> dsimp! only [within]
  rename_i i
  refine Br.dec (fun x => ?_) (fun x => ?_)
  · dsimp! only [x]
  · dsimp! only [x, decide_false]
def allN (rows : List Row) : List (List Nat) := rows.flatMap pnames
theorem pnames_map (r : Row) : (List.range r.times.toNat).map (fun k => U.str (r.name ++ sInt (k : Nat))) = (pnames r).map U.str := by
  simp [pnames, pcs, pc, List.map_map, Function.comp_def]
theorem nmF_str {s : List Nat} : nmF (.str s) = (decide (1 ≤ s.length ∧ s.length ≤ 6) && ((s[0]?).any fun c => decide (c ∈ LET)) && s.all fun c => decide (c ∈ LET ++ FIG)) := by
  simp only [nmF, nameOk]
  rw [Bool.eq_iff_iff]
  simp only [Bool.and_eq_true, decide_eq_true_eq]
  constructor
  · rintro ⟨⟨⟨⟨a, b⟩, c⟩, d⟩, e⟩; exact ⟨⟨⟨a, e⟩, c⟩, d⟩
  · rintro ⟨⟨⟨a, e⟩, c⟩, d⟩; exact ⟨⟨⟨⟨a, by omega⟩, c⟩, d⟩, e⟩
theorem rowF_form {rows} {xs : List U} (h : ¬ (xs.length : Int) = 6) : rowF rows (.tup xs) = some FORM := by
  unfold rowF
  rw [rf1_form h]
theorem rowF_six {rows a b c d e f w} (q : six (inN rows) a b c d e f = some w) : rowF rows (.tup [a, b, c, d, e, f]) = some w := by
  have z : rf1 (inN rows) (.tup [a, b, c, d, e, f]) = some w := q
  unfold rowF
  rw [z]
theorem rowF_none {rows} {r : Row} (q : rf1 (inN rows) (rowU r) = none) : rowF rows (rowU r) = rf2 rows r := by
  unfold rowF
  rw [q]
  rfl
theorem lrowfault_spec (n h m u) (rows : List Row) (g : Goods rows) (hm : h[m]? = some (.lst (rows.map rowU))) (R : Rowy h u) :
    Post (C (n+2) 44 [u, .ref m] h) (fun v h' => v = oS (rowF rows u) ∧ ∃ j, h' = h ++ j) nox := by
  have hml := lt_of_at hm
  have kR := R.k
  have gl := g.len
  rw [q_callF rfl rfl]
  by_cases hu : ∃ xs, u = .tup xs
  case neg =>
    cases u with
    | tup xs => exact absurd ⟨_, rfl⟩ hu
    | _ => dsimp! only [f44, b44]; first | exact ⟨rfl, [], by simp⟩ | exact ⟨[], by simp⟩
  obtain ⟨xs, rfl⟩ := hu
  dsimp! only [f44, b44]
  refine Br.dec (fun hl' => ?yes) (fun hl => ?nope)
  case nope =>
    dsimp! only []
    refine ⟨?_, [], by simp⟩
    rw [rowF_form hl]; rfl
  obtain ⟨a, b, c, d, e, f, rfl⟩ := six_list hl'
  clear hl' kR
  have ka := (R.ks _ rfl a (by simp)).1
  have ka2 := (R.ks _ rfl a (by simp)).2
  have kb := (R.ks _ rfl b (by simp)).1
  have kc := (R.ks _ rfl c (by simp)).1
  have kd := (R.ks _ rfl d (by simp)).1
  have ke := (R.ks _ rfl e (by simp)).1
  have kf := (R.ks _ rfl f (by simp)).1
  have fin : ∀ (w : Option (List Nat)) (j' : AH), rowF rows (.tup [a, b, c, d, e, f]) = w → (oS w = oS (rowF rows (.tup [a, b, c, d, e, f])) ∧ ∃ j, h ++ j' = h ++ j) := fun w j' q => ⟨by rw [q], j', rfl⟩
  have fin0 : ∀ (w : Option (List Nat)), rowF rows (.tup [a, b, c, d, e, f]) = w → (oS w = oS (rowF rows (.tup [a, b, c, d, e, f])) ∧ ∃ j, h = h ++ j) := fun w q => ⟨by rw [q], [], by simp⟩
  have bad : ∀ w, six (inN rows) a b c d e f = some w → rowF rows (.tup [a, b, c, d, e, f]) = some w := fun w q => rowF_six q
  by_cases ha : ∃ s, a = .str s
  case neg =>
    have q := bad NAME (by
      have : nmF a = false := by cases a <;> first | rfl | exact absurd ⟨_, rfl⟩ ha
      simp [six, this])
    cases a with
    | str s => exact absurd ⟨_, rfl⟩ ha
    | _ => dsimp! only []; exact fin0 (some NAME) q
  obtain ⟨s, rfl⟩ := ha
  have ks := ka2 s rfl
  dsimp! only []
  have nm := nmF_str (s := s)
  have badN : nmF (.str s) = false → rowF rows (.tup [.str s, b, c, d, e, f]) = some NAME := fun q => bad NAME (by simp [six, q])
  refine Br.dec (fun a1 => ?y1) (fun a1 => ?n1)
  case n1 =>
    dsimp! only [a1]
    exact fin0 (some NAME) (badN (by rw [nm, decide_eq_false (by omega)]; rfl))
  dsimp! only []
  refine Br.dec (fun a2 => ?y2) (fun a2 => ?n2)
  case n2 =>
    dsimp! only [a2]
    exact fin0 (some NAME) (badN (by rw [nm, decide_eq_false (by omega)]; rfl))
  cases s with
  | nil => simp at a1
  | cons c0 r0 =>
  dsimp! only []
  refine Br.dec (fun a3 => ?y3) (fun a3 => ?n3)
  case n3 =>
    have a3' : ¬ c0 ∈ LET := fun z => a3 z
    dsimp! only [a3]
    exact fin0 (some NAME) (badN (by rw [nm]; simp [a3']))
  dsimp! only []
  refine lc_filter (c0 :: r0) (fun c => .str [c]) (fun c => .str [c]) (fun c => !decide (c ∈ LET ++ FIG)) rfl rfl (fun out => gd_nil) (by omega) (fun x hx out => ?_) ?_
  · by_cases z : x ∈ LET ++ FIG
    · have z' := z
      simp only [LET, FIG, List.cons_append, List.nil_append] at z'
      simp only [decide_eq_true z, Bool.not_true]
      dsimp! only [lcF_name, z']
    · have z' := z
      simp only [LET, FIG, List.cons_append, List.nil_append] at z'
      simp only [decide_eq_false z, Bool.not_false]
      dsimp! only [lcF_name, z']
  cases hF : (c0 :: r0).filter (fun c => !decide (c ∈ LET ++ FIG)) with
  | cons x rr =>
    have hm' : x ∈ (c0 :: r0).filter (fun c => !decide (c ∈ LET ++ FIG)) := by rw [hF]; simp
    obtain ⟨hm1, hm2⟩ := List.mem_filter.mp hm'
    dsimp! only [List.map_cons]
    exact fin (some NAME) _ (badN (by
      rw [nm, Bool.and_eq_false_iff]
      right
      rw [Bool.eq_false_iff]
      intro z
      have := List.all_eq_true.mp z x hm1
      rw [this] at hm2
      cases hm2))
  | nil =>
  have hall : (c0 :: r0).all (fun c => decide (c ∈ LET ++ FIG)) = true := by
    rw [List.all_eq_true]
    intro c hc
    have := List.filter_eq_nil_iff.mp hF c hc
    rw [decide_eq_true_eq]
    exact Classical.byContradiction fun z => this (by rw [decide_eq_false z]; rfl)
  have hn : nmF (.str (c0 :: r0)) = true := by
    have a3' : c0 ∈ LET := a3
    rw [nm, hall, decide_eq_true (by omega)]
    simp [a3']
  clear hall hF nm badN a1 a2 a3
  generalize hs0 : c0 :: r0 = s at *
  dsimp! only [List.map_nil, hm]
  refine lc_map rows rowU (fun r => .str r.name) rfl rfl (fun out => by apply gd_one; dsimp! only [hm]) (by omega) (fun x hx out => ?_) ?_
  · dsimp! only [rowU]
  dsimp! only []
  refine Br.dec (fun q => ?n4) (fun q => ?y4)
  case n4 =>
    dsimp! only []
    have hin : inN rows s = true := decide_eq_true q
    exact fin (some DOUBLE) _ (bad DOUBLE (by simp [six, hn, hin, strO]))
  have hin : inN rows s = false := by unfold inN; exact decide_eq_false q
  dsimp! only []
  have r6 : ∀ w, rngF b c d e f = some w → rowF rows (.tup [.str s, b, c, d, e, f]) = some w := fun w q => bad w (by simp [six, hn, hin, strO, q])
  have kb' := fun j => kb.app j
  have kc' := fun j => kc.app j
  have kd' := fun j => kd.app j
  have ke' := fun j => ke.app j
  have kf' := fun j => kf.app j
  dsimp! only [numbered, q_forCons, q_forNil, forB_tup, evP, evPs, gd_atk, gd_at00, lwhole_eq]
  cases w1 : within b 0 199 with
  | false => dsimp! only []; exact fin (some FIRST) _ (r6 FIRST (by simp [rngF, w1]))
  | true =>
  dsimp! only [numbered, q_forCons, q_forNil, forB_tup, evP, evPs, gd_atk, gd_at00, lwhole_eq]
  cases w2 : within c 1 200 with
  | false => dsimp! only []; exact fin (some WINDOW) _ (r6 WINDOW (by simp [rngF, w1, w2]))
  | true =>
  dsimp! only [numbered, q_forCons, q_forNil, forB_tup, evP, evPs, gd_atk, gd_at00, lwhole_eq]
  cases w3 : within d 1 12 with
  | false => dsimp! only []; exact fin (some LENGTH) _ (r6 LENGTH (by simp [rngF, w1, w2, w3]))
  | true =>
  dsimp! only [numbered, q_forCons, q_forNil, forB_tup, evP, evPs, gd_atk, gd_at00, lwhole_eq]
  cases w4 : within e 1 200 with
  | false => dsimp! only []; exact fin (some EVERY) _ (r6 EVERY (by simp [rngF, w1, w2, w3, w4]))
  | true =>
  dsimp! only [numbered, q_forCons, q_forNil, forB_tup, evP, evPs, gd_atk, gd_at00, lwhole_eq]
  cases w5 : within f 1 30 with
  | false => dsimp! only []; exact fin (some TIMES) _ (r6 TIMES (by simp [rngF, w1, w2, w3, w4, w5]))
  | true =>
  have h0 : six (inN rows) (.str s) b c d e f = none := by simp [six, hn, hin, strO, rngF, w1, w2, w3, w4, w5]
  obtain ⟨r, e1, rfl, rfl, rfl, rfl, rfl, gr, _⟩ := six_inv h0
  cases e1
  have g1 := gr.nl
  have g2 := gr.t0
  have g3 := gr.t1
  have g4 := gr.e0
  have g5 := gr.e1
  have eF : rowF rows (.tup [.str r.name, .int r.first, .int r.window, .int r.len, .int r.every, .int r.times]) = rf2 rows r := rowF_none h0
  dsimp! only [q_forNil, gd_atk, gd_at00]
  refine Br.dec (fun x => ?n5) (fun x => ?y5)
  case n5 =>
    dsimp! only []
    exact fin (some LAST) _ (by rw [eF]; unfold rf2; rw [if_pos (by omega)])
  dsimp! only []
  refine lc_map (List.range r.times.toNat) (fun (k : Nat) => .int (k : Int)) (fun k => .str (r.name ++ sInt (k : Nat))) rfl rfl (fun out => gd_nil) (by simp; omega) (fun k hk out => ?_) ?_
  · have hk' := List.mem_range.mp hk
    obtain ⟨hk1, hk2⟩ := sInt_small k (by omega)
    dsimp! only [lcF_name]
  rw [pnames_map]
  dsimp! only [hm]
  have gpl := g.pl
  have gtl : ∀ k, (allN (rows.take k)).length ≤ 30 := fun k => by
    unfold allN
    have e : rows.flatMap pnames = (rows.take k).flatMap pnames ++ (rows.drop k).flatMap pnames := by
      conv => lhs; rw [← List.take_append_drop k rows]
      rw [List.flatMap_append]
    rw [e, List.length_append] at gpl
    omega
  have pl : (pnames r).length = r.times.toNat := by simp [pnames, pcs]
  refine forL_post (fun pre e h' => ∃ (t2 t3 t4 t5 t6 t7 t10 t11 t12 t13 : Option U) (o0 o1 o2 o3 : AO) (j : AH), e = [some (.tup [.str r.name, .int r.first, .int r.window, .int r.len, .int r.every, .int r.times]), some (.ref m), t2, t3, t4, t5, t6, t7, some (.ref (h.length + 4)), some (.ref (h.length + 5)), t10, t11, t12, t13] ∧
    h' = h ++ (o0 :: o1 :: o2 :: o3 :: .lst ((pnames r).map U.str) :: .lst ((allN (rows.take pre.length)).map U.str) :: j)) ?_ ?_ ?_
  · exact ⟨_, _, _, _, _, _, _, _, _, _, _, _, _, _, [], rfl, rfl⟩
  · rintro pre u rest e h' hsp ⟨t2, t3, t4, t5, t6, t7, t10, t11, t12, t13, o0, o1, o2, o3, j, rfl, rfl⟩
    obtain ⟨r', hr, hu, hpre, hsplit⟩ := map_split hsp
    subst hu
    have gr' : Good r' := g.all r' (List.mem_of_getElem? hr)
    have q2 := gr'.t0
    have q3 := gr'.t1
    have q1 := gr'.nl
    have l1 := gtl pre.length
    have l2 := gtl (pre.length + 1)
    have et : rows.take (pre.length + 1) = rows.take pre.length ++ [r'] := by rw [List.take_add_one, hr]; rfl
    have l3 : (pnames r').length = r'.times.toNat := by simp [pnames, pcs]
    refine ⟨gd_app hm, ?_⟩
    dsimp! only [forB_name, rowU]
    refine lc_map (List.range r'.times.toNat) (fun (k : Nat) => .int (k : Int)) (fun k => .str (r'.name ++ sInt (k : Nat))) rfl rfl (fun out => gd_nil) (by simp; omega) (fun k hk out => ?_) ?_
    · have hk' := List.mem_range.mp hk
      obtain ⟨hk1, hk2⟩ := sInt_small k (by omega)
      dsimp! only [lcF_name]
    rw [pnames_map]
    dsimp! only []
    exact ⟨_, _, _, _, _, _, _, _, _, _, o0, o1, o2, o3, j ++ [.lst ((pnames r').map U.str)], rfl, by rw [et]; simp [allN]⟩
  · rintro e h' ⟨t2, t3, t4, t5, t6, t7, t10, t11, t12, t13, o0, o1, o2, o3, j, rfl, rfl⟩
    refine ⟨gd_app hm, ?_⟩
    rw [List.length_map, List.take_length]
    dsimp! only []
    refine lc_filter (pnames r) U.str U.str (fun s => decide (s ∈ allN rows)) rfl rfl (fun out => by apply gd_one; dsimp! only []) (by omega) (fun x hx out => ?_) ?_
    · have ea := anyEq_strs (h := (h ++ (o0 :: o1 :: o2 :: o3 :: .lst ((pnames r).map U.str) :: .lst ((allN rows).map U.str) :: (j ++ [.lst out])))) (s := x) (f := id) (allN rows)
      simp only [id_eq, List.map_id_fun] at ea
      by_cases z : x ∈ allN rows
      · simp only [decide_eq_true z] at ea ⊢
        dsimp! only [lcF_name, ea]
      · simp only [decide_eq_false z] at ea ⊢
        dsimp! only [lcF_name, ea]
    have eM : meetB rows r = (pnames r).any fun s => decide (s ∈ allN rows) := rfl
    cases hF : (pnames r).filter (fun s => decide (s ∈ allN rows)) with
    | cons x rr =>
      have hm' : x ∈ (pnames r).filter (fun s => decide (s ∈ allN rows)) := by rw [hF]; simp
      obtain ⟨hm1, hm2⟩ := List.mem_filter.mp hm'
      dsimp! only [List.map_cons]
      exact fin (some MEETS) _ (by rw [eF]; unfold rf2; rw [if_neg (by omega), eM, if_pos (List.any_eq_true.mpr ⟨x, hm1, hm2⟩)])
    | nil =>
      have e0 : meetB rows r = false := by
        rw [eM, List.any_eq_false]
        intro s hs
        have := List.filter_eq_nil_iff.mp hF s hs
        simpa using this
      have al : (allN rows).length ≤ 30 := gpl
      dsimp! only [List.map_nil, bi_intb]
      by_cases h30 : (30 : Int) < ((pnames r).length : Int) + ((allN rows).length : Int)
      · dsimp! only [h30, b2i]
        exact fin (some TOGETHER) _ (by rw [eF]; unfold rf2; rw [if_neg (by omega), e0, if_neg (by simp), if_pos (by show 30 < (allN rows).length + _; omega)])
      · dsimp! only [h30, b2i]
        exact fin none _ (by rw [eF]; unfold rf2; rw [if_neg (by omega), e0, if_neg (by simp), if_neg (by show ¬ 30 < (allN rows).length + _; omega)])
end K78
namespace K78
open Ev
def oF : Option (U × List Nat) → U
  | none => .non
  | some (k, w) => .tup [k, .str w]
theorem rowF_w {rows u w} (h : rowF rows u = some w) : w.length ≤ 100000 ∧ w ≠ [] := by
  rcases rf3_rowF (rows := rows) (u := u) with ⟨w', q1, q2⟩ | ⟨q1, r, rfl, _, gr, hin, q2⟩
  · rw [q2] at h; cases h; exact rf3_w q1
  · rw [q2] at h
    unfold rf2 at h
    split at h
    · cases h; decide
    split at h
    · cases h; decide
    split at h
    · cases h; decide
    · cases h
theorem lfault_spec (n h m) (us : List U) (hm : h[m]? = some (.lst us)) (hR : ∀ u ∈ us, Rowy h u) (hl : us.length ≤ 90000) :
    Post (C (n+3) 45 [.ref m] h) (fun v h' => v = oF (serT us) ∧ ∃ j, h' = h ++ j) nox := by
  have hml := lt_of_at hm
  have km := kno_lst hm
  rw [q_callF rfl rfl]
  dsimp! only [f45, b45, hm]
  refine Br.dec (fun h30 => ?_) (fun h30 => ?_)
  · dsimp! only []
    exact ⟨by unfold serT; rw [if_pos (by omega)]; rfl, [], by simp⟩
  have eT : serT us = (serF [] us).map fun p => (.int (p.1 : Nat), p.2) := by unfold serT; rw [if_neg (by omega)]
  dsimp! only [hm]
  refine forL_post (fun pre e h' => ∃ (t1 t2 t3 : Option U) (j : AH) (rows : List Row), e = [some (.ref m), t1, t2, t3] ∧ Goods rows ∧ rows.length = pre.length ∧ us = rows.map rowU ++ us.drop pre.length ∧ h' = h ++ j) ⟨_, _, _, [], [], rfl, ⟨by simp, by simp, by simp, by simp⟩, rfl, by simp, by simp⟩ ?_ ?_
  · rintro pre u rest e h' hsp ⟨t1, t2, t3, j, rows, rfl, g, gl, gus, rfl⟩
    have hsp' : numbered 0 (us.map id) = pre ++ u :: rest := by simpa using hsp
    obtain ⟨v, hv, hu, hsplit⟩ := num_split hsp'
    subst hu
    have hvm : v ∈ us := List.mem_of_getElem? hv
    have hl2 : pre.length < us.length := (List.getElem?_eq_some_iff.mp hv).1
    have hd : us.drop pre.length = v :: us.drop (pre.length + 1) := by
      rw [List.drop_eq_getElem_cons hl2]
      congr 1
      exact (List.getElem?_eq_some_iff.mp hv).2
    have eS : serF [] us = serF rows (v :: us.drop (pre.length + 1)) := by
      conv => lhs; rw [gus, hd]
      exact serF_rows rows [] _ (by simpa using g)
    have et : us.take pre.length = rows.map rowU := by
      have z := congrArg (List.take pre.length) gus
      rw [List.take_append_of_le_length (by simp [gl])] at z
      rw [z, List.take_of_length_le (by simp [gl])]
    have hc : cut us none (some (pre.length : Int)) = rows.map rowU := by rw [cut_take (by omega), et]
    refine ⟨gd_app hm, ?_⟩
    dsimp! only [forB_tup, evP, evPs, hm, hc, bi_listR, liR_l]
    refine Post.mono (lrowfault_spec n _ _ v rows g (by dsimp! only []) ((hR v hvm).app _)) ?_ (fun _ _ _ k => k.elim)
    rintro u1 h1 ⟨rfl, j1, rfl⟩
    cases hf : rowF rows v with
    | some w =>
      obtain ⟨hw1, hw2⟩ := rowF_w hf
      simp only [oS, id_eq]
      dsimp! only [hw2, hf]
      refine ⟨?_, _, rfl⟩
      rw [eT, eS]
      simp only [serF, hf, gl, Option.map_some, oF]
    | none =>
      obtain ⟨r, rfl, e2, g2⟩ := rowF_good g hf
      simp only [oS, id_eq]
      dsimp! only []
      refine ⟨_, _, _, _, rows ++ [r], rfl, g2, by simp [gl], ?_, rfl⟩
      conv => lhs; rw [gus, hd]
      simp
  · rintro e h' ⟨t1, t2, t3, j, rows, rfl, g, gl, gus, rfl⟩
    have el : (numbered 0 us).length = us.length := numbered_len _ _
    have gus' : us = rows.map rowU := by rw [el, List.drop_length, List.append_nil] at gus; exact gus
    refine ⟨gd_app hm, ?_⟩
    dsimp! only []
    refine ⟨?_, _, rfl⟩
    have := serF_rows rows [] [] (by simpa using g)
    rw [List.append_nil] at this
    rw [eT, gus', this]
    rfl
end K78
namespace K78
open Ev
/-! ### numbers and rows that texts tell -/
def numB (s : List Nat) : Bool := decide (1 ≤ s.length ∧ s.length ≤ 4) && (s.all fun c => decide (c ∈ FIG)) && !(decide (s[0]? = some 48) && !decide (s = [48]))
def numV (s : List Nat) : U := if numB s then .int ((pInt s).getD 0) else .non
theorem fig_dig : ∀ c ∈ FIG, (digVal c).isSome = true := by decide
theorem pNat_some : ∀ (s : List Nat) (acc : Nat), (∀ c ∈ s, c ∈ FIG) → ∃ n, pNat s acc = some n
  | [], acc, _ => ⟨acc, rfl⟩
  | c :: r, acc, h => by
    obtain ⟨d, hd⟩ := Option.isSome_iff_exists.mp (fig_dig c (h c (by simp)))
    obtain ⟨n, hn⟩ := pNat_some r (10 * acc + d) fun c hc => h c (by simp [hc])
    exact ⟨n, by simp [pNat, hd, hn]⟩
theorem pInt_some {s : List Nat} (h1 : s ≠ []) (h2 : s.length ≤ 600) (h : ∀ c ∈ s, c ∈ FIG) : pInt s = some ((pInt s).getD 0) := by
  obtain ⟨n, hn⟩ := pNat_some s 0 h
  have : pInt s = some (Int.ofNat n) := by unfold pInt; rw [if_neg (by simp [h1]; omega), hn]; rfl
  rw [this]; rfl
def intR (h : AH) (o : Option Int) : R U := match o with
  | some n => .ok (.int n) h
  | none => .bad
theorem bi_ints {s h} : evBI .int [.str s] h = intR h (pInt s) := rfl
theorem intR_ok {n h} : intR h (some n) = .ok (.int n) h := rfl
theorem numB_iff {s : List Nat} : numB s = true ↔ (1 ≤ s.length ∧ s.length ≤ 4) ∧ (∀ c ∈ s, c ∈ FIG) ∧ ¬ (s[0]? = some 48 ∧ s ≠ [48]) := by
  unfold numB
  simp only [Bool.and_eq_true, decide_eq_true_eq, List.all_eq_true, Bool.not_eq_true', Bool.and_eq_false_iff, decide_eq_false_iff_not, Bool.not_eq_false', and_assoc]
  refine and_congr_right fun _ => and_congr_right fun _ => and_congr_right fun _ => ?_
  by_cases z : s = [48] <;> simp [z]
theorem nv_no {s} (h : ¬ numB s = true) : numV s = .non := by unfold numV; rw [if_neg h]
theorem nv_yes {s} (h : numB s = true) : numV s = .int ((pInt s).getD 0) := by unfold numV; rw [if_pos h]
theorem number_spec (n h s) (hs : s.length ≤ 100000) : Post (C (n+1) 4 [.str s] h) (fun v h' => v = numV s ∧ ∃ j, h' = h ++ j) nox := by
  rw [q_callF rfl rfl]
  dsimp! only [f4, b4]
  refine Br.dec (fun a1 => ?y1) (fun a1 => ?n1)
  case n1 =>
    dsimp! only []
    exact ⟨(nv_no fun z => by have := (numB_iff.mp z).1; omega).symm, [], by simp⟩
  dsimp! only []
  refine Br.dec (fun a2 => ?y2) (fun a2 => ?n2)
  case n2 =>
    dsimp! only []
    exact ⟨(nv_no fun z => by have := (numB_iff.mp z).1; omega).symm, [], by simp⟩
  cases s with
  | nil => simp at a1
  | cons c0 r0 =>
  dsimp! only []
  refine lc_map (c0 :: r0) (fun c => .str [c]) (fun c => .bl (decide (c ∈ FIG))) rfl rfl (fun _ => gd_nil) (by omega) (fun x hx out => ?_) ?_
  · dsimp! only [lcF_name, FIG]
    congr
  dsimp! only [bools_map]
  cases hA : ((c0 :: r0).map fun c => decide (c ∈ FIG)).all id with
  | false =>
    dsimp! only []
    refine ⟨(nv_no fun z => ?_).symm, _, rfl⟩
    have h2 := (numB_iff.mp z).2.1
    rw [Bool.eq_false_iff] at hA
    refine hA ?_
    rw [List.all_map, List.all_eq_true]
    intro c hc
    simpa using h2 c hc
  | true =>
  have hF : ∀ c ∈ c0 :: r0, c ∈ FIG := by
    rw [List.all_map, List.all_eq_true] at hA
    intro c hc
    simpa using hA c hc
  have hp := pInt_some (s := c0 :: r0) (by simp) (by simp only [List.length_cons] at a2 ⊢; omega) hF
  have a12 : 1 ≤ (c0 :: r0).length ∧ (c0 :: r0).length ≤ 4 := by omega
  dsimp! only []
  refine Br.dec (fun b1 => ?y3) (fun b1 => ?n3)
  case n3 =>
    dsimp! only [b1, bi_ints, decide_false]
    rw [hp]
    dsimp! only [intR_ok]
    refine ⟨(nv_yes (numB_iff.mpr ⟨a12, hF, ?_⟩)).symm, _, rfl⟩
    rintro ⟨z, _⟩
    have : c0 = 48 := by simpa using z
    exact b1 (by rw [this])
  dsimp! only [b1]
  refine Br.dec (fun b2 => ?y4) (fun b2 => ?n4)
  case y4 =>
    dsimp! only [b1, b2, bi_ints]
    have hp' := hp
    rw [b2] at hp'
    rw [hp']
    dsimp! only [intR_ok]
    refine ⟨?_, _, rfl⟩
    rw [nv_yes (numB_iff.mpr ⟨a12, hF, fun z => z.2 b2⟩), b2]
  dsimp! only [b1, b2]
  refine ⟨(nv_no fun z => (numB_iff.mp z).2.2 ⟨by simpa using b1, b2⟩).symm, _, rfl⟩
theorem lnumber_spec (n h s) (hs : s.length ≤ 100000) : Post (C (n+1) 46 [.str s] h) (fun v h' => v = numV s ∧ ∃ j, h' = h ++ j) nox := by
  rw [q_callF rfl rfl]
  dsimp! only [f46, b46]
  refine Br.dec (fun a1 => ?n1) (fun a1 => ?y1)
  case n1 =>
    dsimp! only [a1]
    exact ⟨(nv_no fun z => by have := (numB_iff.mp z).1; omega).symm, [], by simp⟩
  dsimp! only []
  refine Br.dec (fun a2 => ?n2) (fun a2 => ?y2)
  case n2 =>
    dsimp! only [a2]
    exact ⟨(nv_no fun z => by have := (numB_iff.mp z).1; omega).symm, [], by simp⟩
  cases s with
  | nil => simp at a1
  | cons c0 r0 =>
  dsimp! only []
  refine lc_filter (c0 :: r0) (fun c => .str [c]) (fun c => .str [c]) (fun c => !decide (c ∈ FIG)) rfl rfl (fun out => gd_nil) (by omega) (fun x hx out => ?_) ?_
  · by_cases z : x ∈ FIG
    · have z' := z
      simp only [FIG] at z'
      simp only [decide_eq_true z, Bool.not_true]
      dsimp! only [lcF_name, z']
    · have z' := z
      simp only [FIG] at z'
      simp only [decide_eq_false z, Bool.not_false]
      dsimp! only [lcF_name, z']
  cases hA : (c0 :: r0).filter (fun c => !decide (c ∈ FIG)) with
  | cons x rr =>
    have hm' : x ∈ (c0 :: r0).filter (fun c => !decide (c ∈ FIG)) := by rw [hA]; simp
    obtain ⟨hm1, hm2⟩ := List.mem_filter.mp hm'
    dsimp! only [List.map_cons]
    refine ⟨(nv_no fun z => ?_).symm, _, rfl⟩
    have h2 := (numB_iff.mp z).2.1 x hm1
    simp [h2] at hm2
  | nil =>
  have hF : ∀ c ∈ c0 :: r0, c ∈ FIG := by
    intro c hc
    have := List.filter_eq_nil_iff.mp hA c hc
    exact Classical.byContradiction fun z => this (by rw [decide_eq_false z]; rfl)
  have hp := pInt_some (s := c0 :: r0) (by simp) (by simp only [List.length_cons] at a2 ⊢; omega) hF
  have a12 : 1 ≤ (c0 :: r0).length ∧ (c0 :: r0).length ≤ 4 := by omega
  dsimp! only [List.map_nil]
  refine Br.dec (fun b1 => ?y3) (fun b1 => ?n3)
  case n3 =>
    dsimp! only [b1, bi_ints, decide_false]
    rw [hp]
    dsimp! only [intR_ok]
    refine ⟨(nv_yes (numB_iff.mpr ⟨a12, hF, ?_⟩)).symm, _, rfl⟩
    rintro ⟨z, _⟩
    have : c0 = 48 := by simpa using z
    exact b1 (by rw [this])
  dsimp! only [b1]
  refine Br.dec (fun b2 => ?y4) (fun b2 => ?n4)
  case y4 =>
    dsimp! only [b1, b2, bi_ints]
    have hp' := hp
    rw [b2] at hp'
    rw [hp']
    dsimp! only [intR_ok]
    refine ⟨?_, _, rfl⟩
    rw [nv_yes (numB_iff.mpr ⟨a12, hF, fun z => z.2 b2⟩), b2]
  dsimp! only [b1, b2]
  refine ⟨(nv_no fun z => (numB_iff.mp z).2.2 ⟨by simpa using b1, b2⟩).symm, _, rfl⟩
end K78
namespace K78
open Ev
def wsOf (line : List Nat) : List (List Nat) := splitS 32 [] line
/-- what six words tell -/
def sixT : List (List Nat) → U
  | [w0, w1, w2, w3, w4, w5] => if nameOk w0 then if ([w1, w2, w3, w4, w5].map numV).any isNon then .non else .tup (.str w0 :: [w1, w2, w3, w4, w5].map numV) else .non
  | _ => .non
def rowT (line : List Nat) : U := sixT (wsOf line)
theorem sixT_no {ws : List (List Nat)} (h : ¬ (ws.length : Int) = 6) : sixT ws = .non := by
  unfold sixT
  split
  · exact absurd rfl h
  · rfl
theorem six_words {xs : List (List Nat)} (h : (xs.length : Int) = 6) : ∃ a b c d e f, xs = [a, b, c, d, e, f] := by
  match xs, h with
  | [a, b, c, d, e, f], _ => exact ⟨a, b, c, d, e, f, rfl⟩
  | [], h => simp at h
  | [_], h => simp at h
  | [_, _], h => simp at h
  | [_, _, _], h => simp at h
  | [_, _, _, _], h => simp at h
  | [_, _, _, _, _], h => simp at h
  | _ :: _ :: _ :: _ :: _ :: _ :: _ :: _, h => simp at h; omega
theorem numV_flat (s : List Nat) : flatU (numV s) = true := by unfold numV; split <;> rfl
theorem eqFlat_non {u : U} (h : flatU u = true) : eqFlat u .non = isNon u := by cases u <;> first | rfl | cases h
theorem ae_nums (h : AH) (ws : List (List Nat)) : anyEq h .non (ws.map numV) = some ((ws.map numV).any isNon) := by
  have a : (ws.map numV).all flatU = true := by rw [List.all_map, List.all_eq_true]; intro x _; exact numV_flat x
  unfold anyEq
  rw [if_pos (by rw [a]; rfl)]
  congr 1
  rw [List.any_map, List.any_map]
  congr 1
  funext x
  exact eqFlat_non (numV_flat x)
theorem cut_01 {α : Type} {x : α} {xs : List α} : cut (x :: xs) none (some 1) = [x] := by
  have := cut_take (xs := x :: xs) (k := 1) (by simp)
  simpa using this
theorem srowt_spec (n h line) (hs : line.length ≤ 50000) : Post (C (n+2) 32 [.str line] h) (fun v h' => v = rowT line ∧ ∃ j, h' = h ++ j) nox := by
  have hw := splitS_len (c := 32) (z := line)
  have hm := fun s (h : s ∈ splitS 32 [] line) => splitS_mem h
  unfold rowT wsOf
  rw [q_callF rfl rfl]
  dsimp! only [f32, b32]
  generalize splitS 32 [] line = ws at *
  refine Br.dec (fun a1 => ?y1) (fun a1 => ?n1)
  case n1 =>
    dsimp! only [a1]
    exact ⟨(sixT_no a1).symm, _, rfl⟩
  obtain ⟨w0, w1, w2, w3, w4, w5, rfl⟩ := six_words a1
  have l0 := hm w0 (by simp)
  dsimp! only [List.map_cons, List.map_nil]
  refine Post.mono (name_spec n _ w0 (by omega)) ?_ (fun _ _ _ k => k.elim)
  rintro v h1 ⟨rfl, j, hj⟩
  have hW : h1[h.length]? = some (.lst [.str w0, .str w1, .str w2, .str w3, .str w4, .str w5]) := by rw [hj]; simp
  have hB : ∃ j, h1 = h ++ j := ⟨_, by rw [hj, List.append_assoc]⟩
  clear hj
  have hWl := lt_of_at hW
  cases hn : nameOk w0 with
  | false =>
    dsimp! only []
    exact ⟨by simp [sixT, hn], hB⟩
  | true =>
  dsimp! only [hW]
  refine lc_callH [w1, w2, w3, w4, w5] U.str numV rfl rfl (fun j => by apply gd_one; dsimp! only []) (by simp) (fun x hx j' => ?_) (fun H j' hH => ?_)
  · dsimp! only [lcF_name]
    refine Post.mono (number_spec n _ x (by have := hm x (List.mem_cons_of_mem _ hx); omega)) ?_ (fun _ _ _ k => k.elim)
    rintro v h' ⟨rfl, j2, rfl⟩
    exact ⟨rfl, j2, by simp⟩
  have ea := fun H => ae_nums H [w1, w2, w3, w4, w5]
  have hW2 : H[h.length]? = some (.lst [.str w0, .str w1, .str w2, .str w3, .str w4, .str w5]) := by rw [hH]; dsimp! only [hW]
  have hN2 : H[(h1 ++ [AO.lst [.str w1, .str w2, .str w3, .str w4, .str w5]]).length]? = some (.lst ([w1, w2, w3, w4, w5].map numV)) := by rw [hH]; dsimp! only []
  have hB2 : ∃ j, H = h ++ j := ext2 hB (by rw [hH, List.append_assoc])
  generalize (h1 ++ [AO.lst [.str w1, .str w2, .str w3, .str w4, .str w5]]).length = A at *
  have hA := lt_of_at hN2
  have hWl2 := lt_of_at hW2
  clear hH
  dsimp! only [ea, hN2]
  obtain ⟨jj, hjj⟩ := hB2
  cases hN : ([w1, w2, w3, w4, w5].map numV).any isNon with
  | true =>
    dsimp! only []
    refine ⟨?_, _, hjj⟩
    simp only [sixT]
    rw [if_pos hn, if_pos hN]
  | false =>
    dsimp! only [hW2, hN2, cut_01]
    have e5 : sixT [w0, w1, w2, w3, w4, w5] = .tup (.str w0 :: [w1, w2, w3, w4, w5].map numV) := by
      simp only [sixT]
      rw [if_pos hn, if_neg (by rw [hN]; simp)]
    refine ⟨?_, _, by rw [hjj, List.append_assoc]⟩
    rw [e5]
end K78
namespace K78
open Ev
theorem lrowt_spec (n h line) (hs : line.length ≤ 50000) : Post (C (n+2) 47 [.str line] h) (fun v h' => v = rowT line ∧ ∃ j, h' = h ++ j) nox := by
  have hw := splitS_len (c := 32) (z := line)
  have hm := fun s (h : s ∈ splitS 32 [] line) => splitS_mem h
  unfold rowT wsOf
  rw [q_callF rfl rfl]
  dsimp! only [f47, b47]
  generalize splitS 32 [] line = ws at *
  refine Br.dec (fun a1 => ?y1) (fun a1 => ?n1)
  case n1 =>
    dsimp! only [a1]
    exact ⟨(sixT_no a1).symm, _, rfl⟩
  obtain ⟨w0, w1, w2, w3, w4, w5, rfl⟩ := six_words a1
  have l0 := hm w0 (by simp)
  have no : nameOk w0 = false → sixT [w0, w1, w2, w3, w4, w5] = .non := fun q => by simp only [sixT]; rw [if_neg (by rw [q]; simp)]
  dsimp! only [List.map_cons, List.map_nil]
  refine Br.dec (fun b1 => ?y2) (fun b1 => ?n2)
  case n2 =>
    dsimp! only [b1]
    exact ⟨(no (by unfold nameOk; rw [decide_eq_false (by omega)]; rfl)).symm, _, rfl⟩
  dsimp! only []
  refine Br.dec (fun b2 => ?y3) (fun b2 => ?n3)
  case n3 =>
    dsimp! only [b2]
    exact ⟨(no (by unfold nameOk; rw [decide_eq_false (by omega)]; rfl)).symm, _, rfl⟩
  cases w0 with
  | nil => simp at b1
  | cons c0 r0 =>
  dsimp! only []
  refine Br.dec (fun b3 => ?y4) (fun b3 => ?n4)
  case n4 =>
    have b3' : ¬ c0 ∈ LET := fun z => b3 z
    dsimp! only [b3]
    exact ⟨(no (by unfold nameOk; simp [b3'])).symm, _, rfl⟩
  have b3' : c0 ∈ LET := b3
  have hnm : nameOk (c0 :: r0) = (c0 :: r0).all fun c => decide (c ∈ LET ++ FIG) := by
    unfold nameOk
    rw [decide_eq_true (by omega)]
    simp [b3']
  generalize hs0 : c0 :: r0 = w0 at *
  dsimp! only []
  refine lc_callH [w1, w2, w3, w4, w5] U.str numV rfl rfl (fun j => by apply gd_one; dsimp! only []) (by simp) (fun x hx j' => ?_) (fun H j' hH => ?_)
  · dsimp! only [lcF_name]
    refine Post.mono (lnumber_spec n _ x (by have := hm x (List.mem_cons_of_mem _ hx); omega)) ?_ (fun _ _ _ k => k.elim)
    rintro v h' ⟨rfl, j2, rfl⟩
    exact ⟨rfl, j2, by simp⟩
  have ea := fun H => ae_nums H [w1, w2, w3, w4, w5]
  have hW2 : H[h.length]? = some (.lst [.str w0, .str w1, .str w2, .str w3, .str w4, .str w5]) := by rw [hH]; dsimp! only []
  have hN2 : H[h.length + 2]? = some (.lst ([w1, w2, w3, w4, w5].map numV)) := by rw [hH]; dsimp! only []
  have hB2 : ∃ j, H = h ++ j := ⟨_, by rw [hH]; simp only [List.append_assoc]; rfl⟩
  simp only [List.length_append, List.length_cons, List.length_nil, Nat.zero_add, Nat.reduceAdd, Nat.add_assoc]
  have hA := lt_of_at hN2
  have hWl2 := lt_of_at hW2
  clear hH
  dsimp! only [ea, hN2]
  obtain ⟨jj, hjj⟩ := hB2
  have noN : ([w1, w2, w3, w4, w5].map numV).any isNon = true → sixT [w0, w1, w2, w3, w4, w5] = .non := fun q => by simp only [sixT]; split <;> first | rw [if_pos q] | rfl
  cases hN : ([w1, w2, w3, w4, w5].map numV).any isNon with
  | true =>
    dsimp! only []
    exact ⟨(noN hN).symm, _, hjj⟩
  | false =>
    dsimp! only [hW2]
    refine lc_filter w0 (fun c => .str [c]) (fun c => .str [c]) (fun c => !decide (c ∈ LET ++ FIG)) rfl rfl (fun out => gd_nil) (by omega) (fun x hx out => ?_) ?_
    · by_cases z : x ∈ LET ++ FIG
      · have z' := z
        simp only [LET, FIG, List.cons_append, List.nil_append] at z'
        simp only [decide_eq_true z, Bool.not_true]
        dsimp! only [lcF_name, z']
      · have z' := z
        simp only [LET, FIG, List.cons_append, List.nil_append] at z'
        simp only [decide_eq_false z, Bool.not_false]
        dsimp! only [lcF_name, z']
    cases hF : w0.filter (fun c => !decide (c ∈ LET ++ FIG)) with
    | cons x rr =>
      have hm' : x ∈ w0.filter (fun c => !decide (c ∈ LET ++ FIG)) := by rw [hF]; simp
      obtain ⟨hm1, hm2⟩ := List.mem_filter.mp hm'
      dsimp! only [List.map_cons]
      refine ⟨(no ?_).symm, _, by rw [hjj, List.append_assoc]⟩
      rw [hnm, Bool.eq_false_iff]
      intro z
      have := List.all_eq_true.mp z x hm1
      rw [this] at hm2
      cases hm2
    | nil =>
      have hall : nameOk w0 = true := by
        rw [hnm, List.all_eq_true]
        intro c hc
        have := List.filter_eq_nil_iff.mp hF c hc
        rw [decide_eq_true_eq]
        exact Classical.byContradiction fun z => this (by rw [decide_eq_false z]; rfl)
      dsimp! only [List.map_nil, hW2, hN2, cut_01]
      have e5 : sixT [w0, w1, w2, w3, w4, w5] = .tup (.str w0 :: [w1, w2, w3, w4, w5].map numV) := by
        simp only [sixT]
        rw [if_pos hall, if_neg (by rw [hN]; simp)]
      refine ⟨?_, _, by rw [hjj, List.append_assoc]⟩
      rw [e5]
end K78
namespace K78
open Ev
/-! ### texts: plain -/
theorem join_splitS (c : Nat) : ∀ (z acc : List Nat), joinS [c] (splitS c acc z) = acc ++ z
  | [], acc => by simp [splitS, joinS]
  | x :: r, acc => by
    unfold splitS
    split
    · rename_i e
      subst e
      have ih := join_splitS x r []
      cases hS : splitS x [] r with
      | nil => exact absurd hS (splitS_ne _ _ _)
      | cons y l =>
        rw [hS] at ih
        show acc ++ [x] ++ joinS [x] (y :: l) = _
        rw [ih]; simp
    · rw [join_splitS c r (acc ++ [x])]; simp
def dstr (n : Nat) : List Nat := if n < 10 then [48 + n] else if n < 100 then [48 + n / 10, 48 + n % 10] else if n < 1000 then [48 + n / 100, 48 + n / 10 % 10, 48 + n % 10] else [48 + n / 1000, 48 + n / 100 % 10, 48 + n / 10 % 10, 48 + n % 10]
theorem dstr_ok (n : Nat) (h : n < 10000) : sInt (n : Nat) = dstr n := by
  unfold dstr
  rw [sInt_dig]
  split
  · rfl
  rw [sInt_dig]
  by_cases h2 : n < 100
  · rw [if_pos h2, if_pos (by omega)]; rfl
  rw [if_neg h2, if_neg (by omega), sInt_dig]
  by_cases h3 : n < 1000
  · rw [if_pos h3, if_pos (by omega)]
    have e1 : n / 10 / 10 = n / 100 := by omega
    rw [e1]; rfl
  · rw [if_neg h3, if_neg (by omega), sInt_dig, if_pos (by omega)]
    have e1 : n / 10 / 10 / 10 = n / 1000 := by omega
    have e2 : n / 10 / 10 % 10 = n / 100 % 10 := by omega
    rw [e1, e2]; rfl
theorem fig_val {c : Nat} (h : c ∈ FIG) : ∃ d, d < 10 ∧ c = 48 + d ∧ digVal c = some d := by
  simp only [FIG, List.mem_cons, List.not_mem_nil, or_false] at h
  rcases h with rfl | rfl | rfl | rfl | rfl | rfl | rfl | rfl | rfl | rfl <;> exact ⟨_, by decide, rfl, rfl⟩
theorem canon {s : List Nat} (h : numB s = true) : ∃ n : Nat, pInt s = some (n : Int) ∧ s = sInt (n : Nat) ∧ n < 10000 := by
  obtain ⟨⟨h1, h2⟩, h3, h4⟩ := numB_iff.mp h
  match s, h1, h2, h3, h4 with
  | [a], _, _, h3, _ =>
    obtain ⟨d, hd, rfl, e1⟩ := fig_val (h3 a (by simp))
    refine ⟨d, ?_, ?_, by omega⟩
    · simp [pInt, pNat, e1]
    · rw [dstr_ok d (by omega), dstr, if_pos hd]
  | [a, b], _, _, h3, h4 =>
    obtain ⟨d, hd, rfl, e1⟩ := fig_val (h3 a (by simp))
    obtain ⟨d2, hd2, rfl, e2⟩ := fig_val (h3 b (by simp))
    have : d ≠ 0 := by rintro rfl; exact h4 (by simp)
    refine ⟨10 * d + d2, ?_, ?_, by omega⟩
    · simp [pInt, pNat, e1, e2]
    · rw [dstr_ok _ (by omega), dstr, if_neg (by omega), if_pos (by omega)]
      have q1 : (10 * d + d2) / 10 = d := by omega
      have q2 : (10 * d + d2) % 10 = d2 := by omega
      rw [q1, q2]
  | [a, b, c], _, _, h3, h4 =>
    obtain ⟨d, hd, rfl, e1⟩ := fig_val (h3 a (by simp))
    obtain ⟨d2, hd2, rfl, e2⟩ := fig_val (h3 b (by simp))
    obtain ⟨d3, hd3, rfl, e3⟩ := fig_val (h3 c (by simp))
    have : d ≠ 0 := by rintro rfl; exact h4 (by simp)
    refine ⟨10 * (10 * d + d2) + d3, ?_, ?_, by omega⟩
    · simp [pInt, pNat, e1, e2, e3]
    · rw [dstr_ok _ (by omega), dstr, if_neg (by omega), if_neg (by omega), if_pos (by omega)]
      have q1 : (10 * (10 * d + d2) + d3) / 100 = d := by omega
      have q2 : (10 * (10 * d + d2) + d3) / 10 % 10 = d2 := by omega
      have q3 : (10 * (10 * d + d2) + d3) % 10 = d3 := by omega
      rw [q1, q2, q3]
  | [a, b, c, e], _, _, h3, h4 =>
    obtain ⟨d, hd, rfl, e1⟩ := fig_val (h3 a (by simp))
    obtain ⟨d2, hd2, rfl, e2⟩ := fig_val (h3 b (by simp))
    obtain ⟨d3, hd3, rfl, e3⟩ := fig_val (h3 c (by simp))
    obtain ⟨d4, hd4, rfl, e4⟩ := fig_val (h3 e (by simp))
    have : d ≠ 0 := by rintro rfl; exact h4 (by simp)
    refine ⟨10 * (10 * (10 * d + d2) + d3) + d4, ?_, ?_, by omega⟩
    · simp [pInt, pNat, e1, e2, e3, e4]
    · rw [dstr_ok _ (by omega), dstr, if_neg (by omega), if_neg (by omega), if_neg (by omega)]
      have q1 : (10 * (10 * (10 * d + d2) + d3) + d4) / 1000 = d := by omega
      have q2 : (10 * (10 * (10 * d + d2) + d3) + d4) / 100 % 10 = d2 := by omega
      have q3 : (10 * (10 * (10 * d + d2) + d3) + d4) / 10 % 10 = d3 := by omega
      have q4 : (10 * (10 * (10 * d + d2) + d3) + d4) % 10 = d4 := by omega
      rw [q1, q2, q3, q4]
  | [], h1, _, _, _ => simp at h1
  | _ :: _ :: _ :: _ :: _ :: _, _, h2, _, _ => simp at h2
theorem numV_int {s : List Nat} {i : Int} (h : numV s = .int i) : s = sInt i := by
  by_cases q : numB s = true
  · obtain ⟨n, h1, h2, _⟩ := canon q
    rw [nv_yes q, h1] at h
    cases h
    exact h2
  · rw [nv_no q] at h; cases h
theorem numV_cases (s : List Nat) : numV s = .non ∨ ∃ n : Nat, numV s = .int n := by
  by_cases q : numB s = true
  · obtain ⟨n, h1, h2, _⟩ := canon q
    exact .inr ⟨n, by rw [nv_yes q, h1]; rfl⟩
  · exact .inl (nv_no q)
theorem small_d : ∀ n < 201, numB (dstr n) = true ∧ pInt (dstr n) = some (n : Int) ∧ (dstr n).length ≤ 3 ∧ ((n : Int)).natAbs.log2 < 1920 := by decide +kernel
theorem small_num (n : Nat) (h : n < 201) : numB (sInt (n : Nat)) = true ∧ pInt (sInt (n : Nat)) = some (n : Int) ∧ (sInt (n : Nat)).length ≤ 3 ∧ ((n : Int)).natAbs.log2 < 1920 := by
  rw [dstr_ok n (by omega)]
  exact small_d n h
theorem numV_sInt {i : Int} (h0 : 0 ≤ i) (h1 : i ≤ 200) : numV (sInt i) = .int i ∧ (sInt i).length ≤ 3 ∧ i.natAbs.log2 < 1920 ∧ ∀ c ∈ sInt i, c ∈ FIG := by
  obtain ⟨n, rfl⟩ := Int.eq_ofNat_of_zero_le h0
  obtain ⟨a, b, c, d⟩ := small_num n (by omega)
  exact ⟨by rw [nv_yes a, b]; rfl, c, d, (numB_iff.mp a).2.1⟩
def wordsOf (r : Row) : List (List Nat) := [r.name, sInt r.first, sInt r.window, sInt r.len, sInt r.every, sInt r.times]
def lineOf (r : Row) : List Nat := joinS [32] (wordsOf r)
def textOf (rows : List Row) : List Nat := joinS [10] (rows.map lineOf)
def rowsT (t : List Nat) : List U := if t = [] then [] else (splitS 10 [] t).map rowT
theorem sixT_tup {ws : List (List Nat)} {r : Row} (h : sixT ws = rowU r) : ws = wordsOf r := by
  unfold sixT at h
  split at h
  · rename_i w0 w1 w2 w3 w4 w5
    split at h
    · split at h
      · cases h
      · simp only [rowU, U.tup.injEq, List.map_cons, List.map_nil, List.cons.injEq, U.str.injEq, and_true] at h
        obtain ⟨rfl, h1, h2, h3, h4, h5⟩ := h
        rw [numV_int h1, numV_int h2, numV_int h3, numV_int h4, numV_int h5]
        rfl
    · cases h
  · cases h
theorem rowT_row {line : List Nat} {r : Row} (h : rowT line = rowU r) : line = lineOf r := by
  have := sixT_tup h
  unfold lineOf
  rw [← this]
  have := join_splitS 32 line []
  simpa [wsOf] using this.symm
theorem rowsT_rows {t : List Nat} {rows : List Row} (h : rowsT t = rows.map rowU) : t = textOf rows := by
  unfold rowsT at h
  split at h
  · rename_i e
    have : rows = [] := by cases rows with | nil => rfl | cons _ _ => cases h
    rw [e, this]; rfl
  · have : splitS 10 [] t = rows.map lineOf := by
      generalize splitS 10 [] t = l at h
      induction l generalizing rows with
      | nil => cases rows with | nil => rfl | cons _ _ => cases h
      | cons x l ih =>
        cases rows with
        | nil => cases h
        | cons r rows =>
          simp only [List.map_cons, List.cons.injEq] at h ⊢
          exact ⟨rowT_row h.1, ih h.2⟩
    unfold textOf
    rw [← this]
    have := join_splitS 10 t []
    simpa using this.symm
theorem Good.nums {r : Row} (g : Good r) : (0 ≤ r.first ∧ r.first ≤ 200) ∧ (0 ≤ r.window ∧ r.window ≤ 200) ∧ (0 ≤ r.len ∧ r.len ≤ 200) ∧ (0 ≤ r.every ∧ r.every ≤ 200) ∧ (0 ≤ r.times ∧ r.times ≤ 200) := by
  have := g.f0; have := g.f1; have := g.w0; have := g.w1; have := g.l0; have := g.l1; have := g.e0; have := g.e1; have := g.t0; have := g.t1
  omega
theorem Good.sign {r : Row} (g : Good r) : ∀ w ∈ wordsOf r, ∀ c ∈ w, c ∈ LET ++ FIG := by
  obtain ⟨a, b, c, d, e⟩ := g.nums
  intro w hw x hx
  simp only [wordsOf, List.mem_cons, List.not_mem_nil, or_false] at hw
  rcases hw with rfl | rfl | rfl | rfl | rfl | rfl
  · have := g.nm
    unfold nameOk at this
    simp only [Bool.and_eq_true, List.all_eq_true, decide_eq_true_eq] at this
    exact this.2 x hx
  · exact List.mem_append_right _ ((numV_sInt a.1 a.2).2.2.2 x hx)
  · exact List.mem_append_right _ ((numV_sInt b.1 b.2).2.2.2 x hx)
  · exact List.mem_append_right _ ((numV_sInt c.1 c.2).2.2.2 x hx)
  · exact List.mem_append_right _ ((numV_sInt d.1 d.2).2.2.2 x hx)
  · exact List.mem_append_right _ ((numV_sInt e.1 e.2).2.2.2 x hx)
theorem no_sign : ∀ c ∈ LET ++ FIG, c ≠ 32 ∧ c ≠ 10 := by decide
theorem Good.six {r : Row} (g : Good r) : sixT (wordsOf r) = rowU r := by
  obtain ⟨a, b, c, d, e⟩ := g.nums
  have h1 := (numV_sInt a.1 a.2).1
  have h2 := (numV_sInt b.1 b.2).1
  have h3 := (numV_sInt c.1 c.2).1
  have h4 := (numV_sInt d.1 d.2).1
  have h5 := (numV_sInt e.1 e.2).1
  simp only [wordsOf, sixT, g.nm, if_true, List.map_cons, List.map_nil, h1, h2, h3, h4, h5]
  rfl
theorem Good.rowT {r : Row} (g : Good r) : rowT (lineOf r) = rowU r := by
  have e : splitS 32 [] (lineOf r) = wordsOf r := splitS_join 32 (wordsOf r) (by simp [wordsOf]) fun z hz h => (no_sign 32 (g.sign z hz 32 h)).1 rfl
  show sixT (splitS 32 [] (lineOf r)) = _
  rw [e, g.six]
theorem joinS_mem {c : Nat} : ∀ {l : List (List Nat)} {x : Nat}, x ∈ joinS [c] l → x = c ∨ ∃ z ∈ l, x ∈ z
  | [], x, h => by simp [joinS] at h
  | [z], x, h => .inr ⟨z, by simp, h⟩
  | z :: y :: l, x, h => by
    have h' : x ∈ z ++ [c] ++ joinS [c] (y :: l) := h
    simp only [List.append_assoc, List.mem_append, List.mem_singleton] at h'
    rcases h' with h' | h' | h'
    · exact .inr ⟨z, by simp, h'⟩
    · exact .inl h'
    · rcases joinS_mem h' with q | ⟨w, hw, q⟩
      · exact .inl q
      · exact .inr ⟨w, by simp [hw], q⟩
theorem Good.line10 {r : Row} (g : Good r) : 10 ∉ lineOf r := fun h => by
  rcases joinS_mem h with q | ⟨z, hz, q⟩
  · cases q
  · exact (no_sign 10 (g.sign z hz 10 q)).2 rfl
theorem Good.lineLen {r : Row} (g : Good r) : (lineOf r).length ≤ 40 := by
  obtain ⟨a, b, c, d, e⟩ := g.nums
  have h1 := (numV_sInt a.1 a.2).2.1
  have h2 := (numV_sInt b.1 b.2).2.1
  have h3 := (numV_sInt c.1 c.2).2.1
  have h4 := (numV_sInt d.1 d.2).2.1
  have h5 := (numV_sInt e.1 e.2).2.1
  have h6 := joinS_len 32 (wordsOf r)
  have h7 := g.nl
  unfold lineOf
  generalize (joinS [32] (wordsOf r)).length = L at h6 ⊢
  simp [wordsOf] at h6
  omega
theorem Goods.rowsT {rows : List Row} (g : Goods rows) : rowsT (textOf rows) = rows.map rowU := by
  cases rows with
  | nil => rfl
  | cons r rows =>
    have gr := g.all r (by simp)
    have ne : textOf (r :: rows) ≠ [] := by
      intro z
      have hz := congrArg List.length z
      have h1 := gr.ne
      have : 1 ≤ (lineOf r).length := by
        show 1 ≤ (joinS [32] (r.name :: [sInt r.first, sInt r.window, sInt r.len, sInt r.every, sInt r.times])).length
        show 1 ≤ (r.name ++ [32] ++ joinS [32] [sInt r.first, sInt r.window, sInt r.len, sInt r.every, sInt r.times]).length
        simp; omega
      cases rows with
      | nil => simp [textOf, joinS] at hz; rw [hz] at this; simp at this
      | cons y l =>
        have e : textOf (r :: y :: l) = lineOf r ++ [10] ++ joinS [10] ((y :: l).map lineOf) := rfl
        rw [e] at hz
        simp at hz
    unfold K78.rowsT
    rw [if_neg ne]
    have e : splitS 10 [] (textOf (r :: rows)) = (r :: rows).map lineOf := splitS_join 10 _ (by simp) fun z hz => by
      obtain ⟨x, hx, rfl⟩ := List.mem_map.mp hz
      exact (g.all x hx).line10
    rw [e, List.map_map]
    apply List.map_congr_left
    intro x hx
    exact (g.all x hx).rowT
theorem sum_le {l : List (List Nat)} {k : Nat} (h : ∀ z ∈ l, z.length ≤ k) : (l.map List.length).sum ≤ k * l.length := by
  induction l with
  | nil => simp
  | cons x l ih =>
    have h1 := h x (by simp)
    have h2 := ih fun z hz => h z (by simp [hz])
    simp only [List.map_cons, List.sum_cons, List.length_cons, Nat.mul_add]
    omega
theorem Goods.lines {rows : List Row} (g : Goods rows) : ((rows.map lineOf).map List.length).sum ≤ 40 * rows.length := by
  have := sum_le (l := rows.map lineOf) (k := 40) fun z hz => by
    obtain ⟨x, hx, rfl⟩ := List.mem_map.mp hz
    exact (g.all x hx).lineLen
  simpa using this
theorem Goods.textLen {rows : List Row} (g : Goods rows) : (textOf rows).length ≤ 41 * rows.length := by
  have h1 := g.lines
  have h2 := joinS_len 10 (rows.map lineOf)
  unfold textOf
  simp only [List.length_map] at h2
  omega
/-! what is wrong with a text -/
def faultT (t : List Nat) : Option (U × List Nat) := match (rowsT t).findIdx? isNon with
  | some k => some (.int (k : Nat), FORM)
  | none => serT (rowsT t)
theorem sixT_kind (ws : List (List Nat)) : sixT ws = .non ∨ ∃ w0 xs, sixT ws = .tup (.str w0 :: xs) ∧ w0.length ≤ 8 ∧ ∀ x ∈ xs, x = .non ∨ ∃ n : Nat, x = .int n := by
  unfold sixT
  split
  · rename_i w0 w1 w2 w3 w4 w5
    split
    · rename_i hn
      split
      · exact .inl rfl
      · refine .inr ⟨w0, _, rfl, ?_, fun x hx => ?_⟩
        · unfold nameOk at hn
          simp only [Bool.and_eq_true, decide_eq_true_eq] at hn
          exact hn.1.1.2
        · obtain ⟨w, _, rfl⟩ := List.mem_map.mp hx
          exact numV_cases w
    · exact .inl rfl
  · exact .inl rfl
theorem rowsT_kind {t : List Nat} {u : U} (h : u ∈ rowsT t) : u = .non ∨ ∃ w0 xs, u = .tup (.str w0 :: xs) ∧ w0.length ≤ 8 ∧ ∀ x ∈ xs, x = .non ∨ ∃ n : Nat, x = .int n := by
  unfold rowsT at h
  split at h
  · cases h
  · obtain ⟨l, _, rfl⟩ := List.mem_map.mp h
    exact sixT_kind _
theorem rowsT_rowy {t : List Nat} {u : U} {h : AH} (m : u ∈ rowsT t) : Rowy h u := by
  rcases rowsT_kind m with rfl | ⟨w0, xs, rfl, h1, h2⟩
  · exact ⟨kno_non, fun _ e => by cases e⟩
  · refine ⟨kno_tup, fun ys e x hx => ?_⟩
    cases e
    rcases List.mem_cons.mp hx with rfl | hx
    · exact ⟨kno_str, fun s e => by cases e; omega⟩
    · rcases h2 x hx with rfl | ⟨n, rfl⟩
      · exact ⟨kno_non, fun s e => by cases e⟩
      · exact ⟨kno_int, fun s e => by cases e⟩
theorem any_non {us : List U} (h : AH) (k : ∀ u ∈ us, u = .non ∨ ∃ xs, u = .tup xs) : anyEq h .non us = some (us.any isNon) := by
  unfold anyEq
  by_cases a : us.all flatU = true
  · rw [if_pos (by rw [a]; rfl)]
    congr 1
    rw [Bool.eq_iff_iff, List.any_eq_true, List.any_eq_true]
    constructor
    · rintro ⟨x, hx, e⟩; exact ⟨x, hx, by rw [← eqFlat_non (List.all_eq_true.mp a x hx)]; exact e⟩
    · rintro ⟨x, hx, e⟩; exact ⟨x, hx, by rw [eqFlat_non (List.all_eq_true.mp a x hx)]; exact e⟩
  · have a' : us.all flatU = false := by simpa using a
    have d : us.all (dataU h) = true := by
      rw [List.all_eq_true]; intro x hx
      rcases k x hx with rfl | ⟨xs, rfl⟩ <;> rfl
    rw [if_neg (by rw [a']; simp), if_pos (by rw [d]; rfl)]
theorem first_non {us : List U} (h : AH) (k : ∀ u ∈ us, u = .non ∨ ∃ xs, u = .tup xs) {i : Nat} (e : us.findIdx? isNon = some i) : firstAt h us .non = some (.int (i : Nat)) := by
  unfold firstAt
  by_cases a : us.all flatU = true
  · rw [if_pos (by rw [a]; rfl)]
    have : us.findIdx? (fun x => eqFlat x .non) = us.findIdx? isNon := by
      clear e k
      induction us with
      | nil => rfl
      | cons x us ih =>
        simp only [List.all_cons, Bool.and_eq_true] at a
        rw [List.findIdx?_cons, List.findIdx?_cons, eqFlat_non a.1, ih a.2]
    rw [this, e]; rfl
  · have a' : us.all flatU = false := by simpa using a
    have d : us.all (dataU h) = true := by
      rw [List.all_eq_true]; intro x hx
      rcases k x hx with rfl | ⟨xs, rfl⟩ <;> rfl
    rw [if_neg (by rw [a']; simp), if_pos (by rw [d]; rfl), e]; rfl
theorem rowsT_ax {t : List Nat} : ∀ u ∈ rowsT t, u = .non ∨ ∃ xs, u = .tup xs := fun u m => by
  rcases rowsT_kind m with h | ⟨w0, xs, h, _⟩
  · exact .inl h
  · exact .inr ⟨_, h⟩
theorem Goods.fault {rows : List Row} (g : Goods rows) : faultT (textOf rows) = none := by
  unfold faultT
  rw [g.rowsT]
  have e : (rows.map rowU).findIdx? isNon = none := by
    rw [List.findIdx?_eq_none_iff]
    intro x hx
    obtain ⟨r, _, rfl⟩ := List.mem_map.mp hx
    rfl
  rw [e]
  dsimp only
  have h30 := g.len
  unfold serT
  rw [if_neg (by simp; omega)]
  have := serF_rows rows [] [] (by simpa using g)
  rw [List.append_nil] at this
  rw [this]
  rfl
end K78
namespace K78
open Ev
theorem Ser.app {h s kd hd rows} (S : Ser h s kd hd rows) (j : AH) : Ser (h ++ j) s kd hd rows :=
  ⟨by rw [List.getElem?_append_left (lt_of_at S.self), S.self], by rw [List.getElem?_append_left (lt_of_at S.known), S.known], by rw [List.getElem?_append_left (lt_of_at S.held), S.held]⟩
theorem told_eq (n) {h s kd hd rows} (S : Ser h s kd hd rows) : callF tab fnT (n+1) 25 [.ref s] h = .ok (.tup (rows.map rowU)) h := by
  apply eq_of_post
  rw [q_callF rfl rfl]
  dsimp! only [f25, b25, S.self, S.known]
  simp [kn]
theorem bi_strs {s h} : evBI .str [.str s] h = .ok (.str s) h := rfl
theorem bx_non {us : List U} (e : us.findIdx? isNon = none) : us.any isNon = false := by
  rw [List.any_eq_false]
  intro x hx
  have := List.findIdx?_eq_none_iff.mp e x hx
  simpa using this
theorem bx_some {us : List U} {i} (e : us.findIdx? isNon = some i) : us.any isNon = true := by
  obtain ⟨h1, h2, _⟩ := List.findIdx?_eq_some_iff_getElem.mp e
  exact List.any_eq_true.mpr ⟨_, List.getElem_mem h1, h2⟩
theorem rowsT_len (t : List Nat) : (rowsT t).length ≤ t.length + 1 := by
  unfold rowsT
  split
  · simp
  · rw [List.length_map]; exact splitS_len
/-- what a series is made of and how it stands -/
def Made (h h' : AH) (u : U) (rows : List Row) : Prop := ∃ s kd hd, u = .ref s ∧ Goods rows ∧ Ser h' s kd hd rows ∧ ∃ j, h' = h ++ j
theorem mk_gen (n h m us) (hm : h[m]? = some (.lst us)) (hR : ∀ u ∈ us, Rowy h u) (hl : us.length ≤ 90000) :
    Post (callF tab fnT (n+4) 24 [.ref h.length, .ref m] (h ++ [.ins 6 []])) (fun u h' => u = .non ∧ serT us = none ∧ ∃ rows, us = rows.map rowU ∧ Goods rows ∧ (∃ kd hd, Ser h' h.length kd hd rows) ∧ ∃ j, h' = h ++ j)
      (fun c xs h' => c = 4 ∧ ∃ k w, xs = [k, .str w] ∧ serT us = some (k, w) ∧ ∃ j, h' = h ++ j) := by
  have hml := lt_of_at hm
  have q := init_gen n (h ++ [.ins 6 []]) h.length m us (by simp) (by rw [List.getElem?_append_left hml, hm]) (fun u m => (hR u m).app _) hl
  have kk : ∀ {h' : AH}, Kp [h.length] (h ++ [.ins 6 []]) h' → ∃ j, h' = h ++ j := fun {h'} k => by
    refine ⟨h'.drop h.length, ?_⟩
    have e : h'.take h.length = h := by
      apply List.ext_getElem?
      intro i
      by_cases hi : i < h.length
      · rw [List.getElem?_take_of_lt hi, k.at_ i (by simp; omega) (by simp; omega), List.getElem?_append_left hi]
      · rw [List.getElem?_eq_none (by simp; omega), List.getElem?_eq_none (by omega)]
    conv => lhs; rw [← List.take_append_drop h.length h', e]
  refine Post.mono q ?_ ?_
  · rintro u h' ⟨rfl, h1, rows, h2, h3, j, rfl⟩
    refine ⟨rfl, h1, rows, h2, h3, ⟨(h ++ [AO.ins 6 []]).length, (h ++ [AO.ins 6 []]).length + 1, ⟨?_, ?_, ?_⟩⟩, kk ((Kp.mem (by simp)).trans (Kp.app _))⟩
    · dsimp! only []
    · dsimp! only []
    · dsimp! only []
  · rintro c xs h' ⟨rfl, k, w, rfl, h1, h2⟩
    exact ⟨rfl, k, w, rfl, h1, kk h2⟩
theorem read_spec (n h t) (ht : t.length ≤ 50000) : Post (C (n+5) 33 [.str t] h) (fun u h' => faultT t = none ∧ ∃ rows, rowsT t = rows.map rowU ∧ Made h h' u rows)
    (fun c xs h' => c = 2 ∧ ∃ k w, xs = [k, .str w] ∧ faultT t = some (k, w) ∧ ∃ j, h' = h ++ j) := by
  have hw := splitS_len (c := 10) (z := t)
  have hsm := fun s (h : s ∈ splitS 10 [] t) => splitS_mem h
  rw [q_callF rfl rfl]
  refine cutAt (fun e H => ∃ m t6, e = [some (.str t), some (.ref m), none, none, none, none, t6] ∧ H[m]? = some (.lst (rowsT t)) ∧ ∃ j, H = h ++ j) 3 ?_ ?_
  · dsimp! only [f33, b33]
    refine Br.dec (fun a => ?y) (fun a => ?nn)
    case y =>
      subst a
      dsimp! only []
      exact ⟨_, _, rfl, by dsimp! only []; rfl, _, rfl⟩
    dsimp! only []
    refine lc_callH (splitS 10 [] t) U.str rowT rfl rfl (fun j => by apply gd_one; dsimp! only []) (by omega) (fun x hx j' => ?_) (fun H j' hH => ?_)
    · dsimp! only [lcF_name]
      refine Post.mono (srowt_spec (n+2) _ x (by have := hsm x hx; omega)) ?_ (fun _ _ _ k => k.elim)
      rintro v h' ⟨rfl, j2, rfl⟩
      exact ⟨rfl, j2, by simp⟩
    have hT : rowsT t = (splitS 10 [] t).map rowT := by unfold rowsT; rw [if_neg a]
    dsimp! only []
    refine ⟨_, _, rfl, ?_, ext2 ⟨_, rfl⟩ hH⟩
    rw [hH, hT]; dsimp! only []
  · rintro e H ⟨m, t6, rfl, hm, hB⟩
    have hml := lt_of_at hm
    have ea := any_non H (rowsT_ax (t := t))
    have hl := rowsT_len t
    dsimp! only [f33, b33, hm, ea]
    cases hF : (rowsT t).findIdx? isNon with
    | some i =>
      have fi := first_non H (rowsT_ax (t := t)) hF
      rw [bx_some hF]
      dsimp! only [hm, bm_index, idxR_ok fi]
      exact ⟨_, _, rfl, by unfold faultT; rw [hF]; rfl, hB⟩
    | none =>
      have eF : faultT t = serT (rowsT t) := by unfold faultT; rw [hF]
      rw [bx_non hF]
      dsimp! only [q_mk (Γ := tab) (c := 6) (f := 24) rfl]
      refine Post.mono (mk_gen n H m (rowsT t) hm (fun u m => rowsT_rowy m) (by omega)) ?_ ?_
      · rintro u h' ⟨rfl, h1, rows, h2, h3, ⟨kd, hd, S⟩, h4⟩
        dsimp! only [isNon]
        exact ⟨by rw [eF, h1], rows, h2, _, kd, hd, rfl, h3, S, (by obtain ⟨j, rfl⟩ := h4; exact ext2 hB rfl)⟩
      · rintro c xs h' ⟨rfl, k, w, rfl, h1, h4⟩
        dsimp! only [isNon]
        exact ⟨_, _, rfl, by rw [eF, h1], by obtain ⟨j, rfl⟩ := h4; exact ext2 hB rfl⟩
end K78
namespace K78
open Ev
def BAD : List Nat := [98, 97, 100]
def ROWS : List Nat := [114, 111, 119, 115]
/-- what is due -/
def dueT (t : List Nat) : U := match faultT t with
  | some (k, w) => .tup [.str BAD, k, .str w]
  | none => .tup [.str ROWS, .tup (rowsT t), .str t]
def dueU : U → U
  | .str t => dueT t
  | _ => .tup [.str BAD, .int 0, .str FORM]
theorem due_spec (n h t) (ht : t.length ≤ 50000) : Post (C (n+5) 48 [.str t] h) (fun u h' => u = dueT t ∧ ∃ j, h' = h ++ j) nox := by
  have hw := splitS_len (c := 10) (z := t)
  have hsm := fun s (h : s ∈ splitS 10 [] t) => splitS_mem h
  rw [q_callF rfl rfl]
  refine cutAt (fun e H => ∃ m t6, e = [some (.str t), some (.ref m), none, t6] ∧ H[m]? = some (.lst (rowsT t)) ∧ ∃ j, H = h ++ j) 3 ?_ ?_
  · dsimp! only [f48, b48]
    refine Br.dec (fun a => ?y) (fun a => ?nn)
    case y =>
      subst a
      dsimp! only []
      exact ⟨_, _, rfl, by dsimp! only []; rfl, _, rfl⟩
    dsimp! only []
    refine lc_callH (splitS 10 [] t) U.str rowT rfl rfl (fun j => by apply gd_one; dsimp! only []) (by omega) (fun x hx j' => ?_) (fun H j' hH => ?_)
    · dsimp! only [lcF_name]
      refine Post.mono (lrowt_spec (n+2) _ x (by have := hsm x hx; omega)) ?_ (fun _ _ _ k => k.elim)
      rintro v h' ⟨rfl, j2, rfl⟩
      exact ⟨rfl, j2, by simp⟩
    have hT : rowsT t = (splitS 10 [] t).map rowT := by unfold rowsT; rw [if_neg a]
    dsimp! only []
    refine ⟨_, _, rfl, ?_, ext2 ⟨_, rfl⟩ hH⟩
    rw [hH, hT]; dsimp! only []
  · rintro e H ⟨m, t6, rfl, hm, hB⟩
    have hml := lt_of_at hm
    have ea := any_non H (rowsT_ax (t := t))
    have hl := rowsT_len t
    dsimp! only [f48, b48, hm, ea]
    cases hF : (rowsT t).findIdx? isNon with
    | some i =>
      have fi := first_non H (rowsT_ax (t := t)) hF
      rw [bx_some hF]
      dsimp! only [hm, bm_index, idxR_ok fi]
      exact ⟨by unfold dueT faultT; rw [hF]; rfl, hB⟩
    | none =>
      have eF : faultT t = serT (rowsT t) := by unfold faultT; rw [hF]
      rw [bx_non hF]
      dsimp! only []
      refine Post.mono (lfault_spec (n+1) H m (rowsT t) hm (fun u m => rowsT_rowy m) (by omega)) ?_ (fun _ _ _ k => k.elim)
      rintro u h' ⟨rfl, hj⟩
      have hm2 : h'[m]? = some (.lst (rowsT t)) := by obtain ⟨j, rfl⟩ := hj; rw [List.getElem?_append_left hml, hm]
      have hB2 : ∃ j, h' = h ++ j := by obtain ⟨j, rfl⟩ := hj; exact ext2 hB rfl
      cases hs : serT (rowsT t) with
      | some p =>
        obtain ⟨k, w⟩ := p
        simp only [oF]
        dsimp! only [isNon, b_tup]
        exact ⟨by unfold dueT; rw [eF, hs]; rfl, hB2⟩
      | none =>
        simp only [oF]
        dsimp! only [isNon, hm2]
        exact ⟨by unfold dueT; rw [eF, hs]; rfl, hB2⟩
theorem due_no (n h u) (k : Kno h u) (hu : isStrU u = false) : Post (C (n+5) 48 [u] h) (fun v h' => v = .tup [.str BAD, .int 0, .str FORM] ∧ h' = h) nox := by
  rw [q_callF rfl rfl]
  cases u with
  | str _ => cases hu
  | _ => dsimp! only [f48, b48]; first | exact ⟨rfl, rfl⟩ | rfl
theorem read_no (n h u) (k : Kno h u) (hu : isStrU u = false) : Post (C (n+5) 33 [u] h) (fun _ _ => False) (fun c xs h' => c = 2 ∧ xs = [.int 0, .str FORM] ∧ h' = h) := by
  rw [q_callF rfl rfl]
  cases u with
  | str _ => cases hu
  | _ => dsimp! only [f33, b33]; first | exact ⟨rfl, rfl⟩ | rfl
theorem show_spec (n) {h s kd hd rows} (S : Ser h s kd hd rows) (g : Goods rows) : Post (C (n+2) 34 [.ref s] h) (fun u h' => u = .str (textOf rows) ∧ ∃ j, h' = h ++ j) nox := by
  have gl := g.len
  have gt := g.lines
  rw [q_callF rfl rfl]
  dsimp! only [f34, b34, q_methR (Γ := tab) (m := 4) (f := 25) S.self rfl rfl, told_eq (n) S]
  refine lc_callH rows rowU (fun r => .str (lineOf r)) rfl rfl (fun j => gd_nil) (by omega) (fun x hx j' => ?_) (fun H j' hH => ?_)
  · have gx := g.all x hx
    obtain ⟨a, b, c, d, e⟩ := gx.nums
    obtain ⟨_, a1, a2, _⟩ := numV_sInt a.1 a.2
    obtain ⟨_, b1, b2, _⟩ := numV_sInt b.1 b.2
    obtain ⟨_, c1, c2, _⟩ := numV_sInt c.1 c.2
    obtain ⟨_, d1, d2, _⟩ := numV_sInt d.1 d.2
    obtain ⟨_, e1, e2, _⟩ := numV_sInt e.1 e.2
    have h7 := gx.nl
    dsimp! only [lcF_name, rowU]
    refine lc_map [U.str x.name, .int x.first, .int x.window, .int x.len, .int x.every, .int x.times] id (fun u => match u with | .str s => .str s | .int i => .str (sInt i) | _ => .non) (by simp) rfl (fun out => gd_nil) (by simp) (fun y hy out => ?_) ?_
    · simp only [List.mem_cons, List.not_mem_nil, or_false] at hy
      rcases hy with rfl | rfl | rfl | rfl | rfl | rfl <;> dsimp! only [lcF_name, bi_strs]
    have e : strsU [U.str x.name, .str (sInt x.first), .str (sInt x.window), .str (sInt x.len), .str (sInt x.every), .str (sInt x.times)] = some (wordsOf x) := rfl
    have hl : ((wordsOf x).map List.length).sum + (wordsOf x).length * 1 ≤ 100000 := by simp [wordsOf]; omega
    dsimp! only [List.map_cons, List.map_nil, e]
    exact ⟨rfl, _, rfl⟩
  have hm2 : H[h.length]? = some (.lst (rows.map fun r => .str (lineOf r))) := by rw [hH]; dsimp! only []
  have es : strsU (rows.map fun r => U.str (lineOf r)) = some (rows.map lineOf) := strs_map _ _
  have gk : ((rows.map lineOf).map List.length).sum + (rows.map lineOf).length * ([10] : List Nat).length ≤ 100000 := by simp only [List.length_map, List.length_cons, List.length_nil]; omega
  dsimp! only [hm2, es, jnR_ok gk]
  exact ⟨rfl, _, hH⟩
/-- the answer that is right -/
def ansT : U → U := dueU
theorem so_row (r : Row) (h : AH) : sameOr (eqTop 11 h) (rowU r) (rowU r) = some true := by
  simp only [rowU]
  rw [so_tt]
  simp [ae_cons, ae_nil, so_ss, so_ii]
theorem ae_self {f : U → U → Option Bool} : ∀ {l : List U}, (∀ x ∈ l, f x x = some true) → allEq f l l = some true
  | [], _ => rfl
  | x :: l, h => by rw [ae_cons, h x (by simp), ae_self fun y hy => h y (by simp [hy])]; rfl
theorem ae_rows (rows : List Row) (h : AH) : allEq (sameOr (eqTop 11 h)) (rows.map rowU) (rows.map rowU) = some true := ae_self fun x hx => by
  obtain ⟨r, _, rfl⟩ := List.mem_map.mp hx
  exact so_row r h
theorem rowU_inj {a b : Row} (h : rowU a = rowU b) : a = b := by
  have := congrArg toRow h
  exact this
theorem rowsU_inj : ∀ {a b : List Row}, a.map rowU = b.map rowU → a = b
  | [], [], _ => rfl
  | [], _ :: _, h => by cases h
  | _ :: _, [], h => by cases h
  | x :: a, y :: b, h => by
    simp only [List.map_cons, List.cons.injEq] at h
    rw [rowU_inj h.1, rowsU_inj h.2]
theorem rowU_rowy {h : AH} {r : Row} (g : Good r) : Rowy h (rowU r) := by
  refine ⟨kno_tup, fun ys e x hx => ?_⟩
  have gl := g.nl
  cases e
  simp only [List.mem_cons, List.not_mem_nil, or_false] at hx
  rcases hx with rfl | rfl | rfl | rfl | rfl | rfl
  · exact ⟨kno_str, fun s e => by cases e; omega⟩
  all_goals exact ⟨kno_int, fun s e => by cases e⟩
theorem Goods.serT {rows : List Row} (g : Goods rows) : serT (rows.map rowU) = none := by
  have h30 := g.len
  unfold K78.serT
  rw [if_neg (by simp; omega)]
  have := serF_rows rows [] [] (by simpa using g)
  rw [List.append_nil] at this
  rw [this]
  rfl
/-- a series of good rows, made -/
theorem mk_good (n h m rows) (hm : h[m]? = some (.lst (rows.map rowU))) (g : Goods rows) :
    Post (callF tab fnT (n+4) 24 [.ref h.length, .ref m] (h ++ [.ins 6 []])) (fun u h' => u = .non ∧ (∃ kd hd, Ser h' h.length kd hd rows) ∧ ∃ j, h' = h ++ j) nox := by
  have gl := g.len
  refine Post.mono (mk_gen n h m (rows.map rowU) hm (fun u m => ?_) (by simp; omega)) ?_ ?_
  · obtain ⟨r, hr, rfl⟩ := List.mem_map.mp m
    exact rowU_rowy (g.all r hr)
  · rintro u h' ⟨rfl, _, rows2, e, _, S, hB⟩
    rw [rowsU_inj e]
    exact ⟨rfl, S, hB⟩
  · rintro c xs h' ⟨_, k, w, _, e, _⟩
    rw [g.serT] at e
    cases e
theorem bad_ne : subT 2 2 = true := rfl
theorem answer_spec (n h t) (ht : t.length ≤ 50000) : Post (C (n+6) 49 [.str t] h) (fun u h' => u = dueT t ∧ ∃ j, h' = h ++ j) nox := by
  rw [q_callF rfl rfl]
  dsimp! only [f49, b49]
  refine Post.mono (read_spec n h t ht) ?_ ?_
  · rintro u h1 ⟨hf, rows, hr, s, kd, hd, rfl, g, S, j, rfl⟩
    have et := rowsT_rows hr
    have gl := g.len
    have tl := g.textLen
    dsimp! only []
    refine Post.mono (show_spec (n+3) S g) ?_ (fun _ _ _ k => k.elim)
    rintro u h2 ⟨rfl, j2, rfl⟩
    have S2 := S.app j2
    rw [List.append_assoc] at S2
    dsimp! only [q_methR (Γ := tab) (m := 4) (f := 25) S2.self rfl rfl, told_eq (n+4) S2]
    refine Post.mono (read_spec n _ (textOf rows) (by omega)) ?_ ?_
    · rintro u h3 ⟨hf2, rows2, hr2, s2, kd2, hd2, rfl, g2, S3, j3, hj3⟩
      have er : rows2.map rowU = rows.map rowU := by rw [← hr2, g.rowsT]
      have S4 : Ser h3 s kd hd rows := by rw [hj3]; exact S2.app _
      have hB : ∃ j, h3 = h ++ j := ⟨_, by rw [hj3]; simp only [List.append_assoc]; rfl⟩
      clear hj3
      dsimp! only [q_methR (Γ := tab) (m := 4) (f := 25) S3.self rfl rfl, told_eq (n+4) S3, q_methR (Γ := tab) (m := 4) (f := 25) S4.self rfl rfl, told_eq (n+4) S4, er, ae_rows]
      dsimp! only [q_mk (Γ := tab) (c := 6) (f := 24) rfl, q_methR (Γ := tab) (m := 4) (f := 25) S4.self rfl rfl, told_eq (n+4) S4]
      have mg := mk_good (n+1) (h3 ++ [.lst (rows.map rowU)]) h3.length rows (by simp) g
      simp only [List.length_append, List.length_cons, List.length_nil, Nat.zero_add, Nat.reduceAdd, List.append_assoc, List.cons_append, List.nil_append] at mg
      refine Post.mono mg ?_ ?_
      case refine_2 => rintro _ _ _ k; exact k.elim
      rintro u h4 ⟨rfl, ⟨kd4, hd4, S5⟩, hB4⟩
      dsimp! only []
      refine Post.mono (show_spec (n+3) S5 g) ?_ (fun _ _ _ k => k.elim)
      rintro u h5 ⟨rfl, j5, rfl⟩
      dsimp! only []
      exact ⟨by unfold dueT; rw [hf, hr, et]; rfl, by obtain ⟨j, rfl⟩ := hB4; rw [List.append_assoc]; exact ext2 hB rfl⟩
    · rintro c xs h3 ⟨rfl, k, w, rfl, q, _⟩
      rw [g.fault] at q
      cases q
  · rintro c xs h1 ⟨rfl, k, w, rfl, hf, hB⟩
    dsimp! only []
    exact ⟨by unfold dueT; rw [hf]; rfl, hB⟩
theorem answer_no (n h u) (k : Kno h u) (hu : isStrU u = false) : Post (C (n+6) 49 [u] h) (fun v h' => v = .tup [.str BAD, .int 0, .str FORM] ∧ h' = h) nox := by
  rw [q_callF rfl rfl]
  dsimp! only [f49, b49]
  refine Post.mono (read_no n h u k hu) ?_ ?_
  · rintro _ _ q; exact q.elim
  · rintro c xs h1 ⟨rfl, rfl, rfl⟩
    dsimp! only []
    first | exact ⟨rfl, rfl⟩ | rfl
end K78
namespace K78
open Ev
def allPcs (rows : List Row) : List Pc := rows.flatMap pcs
theorem allPcs_names (rows : List Row) : (allPcs rows).map (·.name) = rows.flatMap pnames := by
  unfold allPcs
  rw [List.map_flatMap]
  rfl
/-! ### draws -/
theorem take_spec (n b h) (m : Int) (hb : isBox h b) (m0 : 0 < m) (m1 : m < 1000000) :
    Post (callF tab fnT (n+1) 37 [.ref b, .int m] h) (fun u h' => ∃ d : Int, u = .int d ∧ 0 ≤ d ∧ d < m ∧ isBox h' b ∧ Kp [b] h h') nox := by
  obtain ⟨a, s, c, e⟩ := hb
  have hl := lt_of_at e
  rw [q_callF rfl rfl]
  dsimp! only [f37, b37, e]
  refine Br.dec (fun k => ?_) (fun k => ?_)
  · dsimp! only [e]
    exact ⟨_, rfl, Int.emod_nonneg _ (by omega), Int.emod_lt_of_pos _ m0, ⟨a / m, s, c, by simp [hl]⟩, Kp.mem (by simp)⟩
  · dsimp! only [e]
    exact ⟨_, rfl, Int.emod_nonneg _ (by omega), Int.emod_lt_of_pos _ m0, ⟨a, s, c + 1, by simp [hl]⟩, Kp.mem (by simp)⟩
theorem box_spec (n h) (c : Int) : Post (callF tab fnT (n+1) 36 [.int c] h) (fun u h' => u = .ref h.length ∧ ∃ o, h' = h ++ [o] ∧ isBox h' h.length) nox := by
  rw [q_callF rfl rfl]
  dsimp! only [f36, b36]
  exact ⟨_, rfl, _, _, _, by rw [app_at0]; rfl⟩
def GoodW (s : List Nat) : Prop := nameOk s = true ∧ s.length ≤ 6
theorem LET_at {d : Int} (h0 : 0 ≤ d) (h1 : d < 26) : ∃ c ∈ LET, LET[d.toNat]? = some c := by
  have : d.toNat < LET.length := by show _ < 26; omega
  exact ⟨LET[d.toNat], List.getElem_mem _, List.getElem?_eq_getElem this⟩
theorem SGN_at {d : Int} (h0 : 0 ≤ d) (h1 : d < 36) : ∃ c ∈ LET ++ FIG, (LET ++ FIG)[d.toNat]? = some c := by
  have : d.toNat < (LET ++ FIG).length := by show _ < 36; omega
  exact ⟨(LET ++ FIG)[d.toNat], List.getElem_mem _, List.getElem?_eq_getElem this⟩
theorem goodW_cons {c : Nat} {cs : List Nat} (hc : c ∈ LET) (hs : ∀ x ∈ cs, x ∈ LET ++ FIG) (hl : cs.length ≤ 5) : GoodW (c :: cs) := by
  refine ⟨?_, by simp; omega⟩
  unfold nameOk
  simp only [Bool.and_eq_true, decide_eq_true_eq, List.all_eq_true, List.length_cons]
  refine ⟨⟨by omega, by simpa using hc⟩, fun x hx => ?_⟩
  rcases List.mem_cons.mp hx with rfl | q
  · exact List.mem_append_left _ hc
  · exact hs x q
theorem word_spec (n b h) (hb : isBox h b) : Post (callF tab fnT (n+2) 38 [.ref b] h) (fun u h' => ∃ s, u = .str s ∧ GoodW s ∧ isBox h' b ∧ Kp [b] h h') nox := by
  rw [q_callF rfl rfl]
  dsimp! only [f38, b38]
  refine Post.mono (take_spec _ b _ _ (by first | assumption | (apply isBox.app; assumption)) (by omega) (by omega)) ?_ (fun _ _ _ k => k.elim); rintro _ h_q ⟨q, rfl, q0, q1, b_q, k_q⟩
  dsimp! only []
  refine Br.dec (fun a => ?_) (fun a => ?_)
  · dsimp! only [a]
    refine Post.mono (take_spec _ b _ _ (by first | assumption | (apply isBox.app; assumption)) (by omega) (by omega)) ?_ (fun _ _ _ k => k.elim); rintro _ h_e0 ⟨e0, rfl, e00, e01, b_e0, k_e0⟩
    dsimp! only []
    obtain ⟨c0, hc0, ec0⟩ := LET_at e00 (by omega)
    change PostO (LET[e0.toNat]?) _
    rw [ec0]
    dsimp! only []
    refine Post.mono (take_spec _ b _ _ (by first | assumption | (apply isBox.app; assumption)) (by omega) (by omega)) ?_ (fun _ _ _ k => k.elim); rintro _ h_d ⟨d, rfl, d0, d1, b_d, k_d⟩
    dsimp! only []
    refine lcR_ok rfl ?_
    refine lcL_post (fun pre out h' => isBox h' b ∧ Kp [b] h h' ∧ h_d.length < h'.length ∧ ∃ cs : List Nat, out = cs.map (fun c => .str [c]) ∧ (∀ c ∈ cs, c ∈ LET ++ FIG) ∧ cs.length = pre.length) ?_ ?_ ?_ ?_
    · exact ⟨b_d.app, ((k_q.trans k_e0).trans k_d).drop (Kp.app (S := []) _) (by simp), by simp, [], rfl, by simp, rfl⟩
    · simp [lstW]
    · rintro pre u rest out h1 hs ⟨b1, k1, l1, cs, rfl, hc, hl⟩ hw
      refine ⟨gd_nil, ?_⟩
      obtain ⟨hu, hpre⟩ := range_split hs
      subst hu
      dsimp! only []
      refine Post.mono (take_spec _ b _ _ (by first | assumption | (apply isBox.app; assumption)) (by omega) (by omega)) ?_ (fun _ _ _ k => k.elim); rintro _ h_d2 ⟨d2, rfl, d20, d21, b_d2, k_d2⟩
      dsimp! only []
      obtain ⟨c, hcl, ec⟩ := SGN_at d20 (by omega)
      change PostO ((LET ++ FIG)[d2.toNat]?) _
      have e2 := k_d2.get (lstW_at hw) (by have := b_d.lt; simp; omega)
      have hd := b_d.lt
      rw [ec, PostO.some, e2]
      exact ⟨rfl, by show _ < 100000; simp; omega, b_d2.set (by omega), (k1.trans k_d2).late (by have := k_q.le; have := k_e0.le; have := k_d.le; omega), by have := k_d2.le; simp; omega, cs ++ [c], by simp, by
        intro x hx
        rcases List.mem_append.mp hx with q | q
        · exact hc x q
        · rw [List.mem_singleton.mp q]; exact hcl, by simp [hl]⟩
    · rintro out h1 ⟨b1, k1, l1, cs, rfl, hc, hl⟩ hw
      refine ⟨gd_nil, ?_⟩
      have hl3 : cs.length = d.toNat := by simpa using hl
      have e1 := lstW_at hw
      dsimp! only [e1]
      exact ⟨_, rfl, goodW_cons hc0 hc (by omega), b1, k1⟩
  · dsimp! only [a]
    refine Post.mono (take_spec _ b _ _ (by first | assumption | (apply isBox.app; assumption)) (by omega) (by omega)) ?_ (fun _ _ _ k => k.elim); rintro _ h_d ⟨d, rfl, d0, d1, b_d, k_d⟩
    dsimp! only []
    refine lcR_ok rfl ?_
    refine lcL_post (fun pre out h' => isBox h' b ∧ Kp [b] h h' ∧ h_d.length < h'.length ∧ ∃ cs : List Nat, out = cs.map (fun c => .str [c]) ∧ (∀ c ∈ cs, c ∈ LET) ∧ cs.length = pre.length) ?_ ?_ ?_ ?_
    · exact ⟨b_d.app, (k_q.trans k_d).drop (Kp.app (S := []) _) (by simp), by simp, [], rfl, by simp, rfl⟩
    · simp [lstW]
    · rintro pre u rest out h1 hs ⟨b1, k1, l1, cs, rfl, hc, hl⟩ hw
      refine ⟨gd_nil, ?_⟩
      obtain ⟨hu, hpre⟩ := range_split hs
      subst hu
      dsimp! only []
      refine Post.mono (take_spec _ b _ _ (by first | assumption | (apply isBox.app; assumption)) (by omega) (by omega)) ?_ (fun _ _ _ k => k.elim); rintro _ h_d2 ⟨d2, rfl, d20, d21, b_d2, k_d2⟩
      dsimp! only []
      obtain ⟨c, hcl, ec⟩ := LET_at d20 (by omega)
      change PostO (LET[d2.toNat]?) _
      have e2 := k_d2.get (lstW_at hw) (by have := b_d.lt; simp; omega)
      have hd := b_d.lt
      rw [ec, PostO.some, e2]
      exact ⟨rfl, by show _ < 100000; simp; omega, b_d2.set (by omega), (k1.trans k_d2).late (k_q.trans k_d).le, by have := k_d2.le; simp; omega, cs ++ [c], by simp, by simp; intro x hx; rcases hx with hx | rfl; exact hc x hx; exact hcl, by simp [hl]⟩
    · rintro out h1 ⟨b1, k1, l1, cs, rfl, hc, hl⟩ hw
      refine ⟨gd_nil, ?_⟩
      have hl3 : cs.length = (1 + d).toNat := by simpa using hl
      have e1 := lstW_at hw
      dsimp! only [e1]
      refine Post.mono (take_spec _ b _ _ (by first | assumption | (apply isBox.app; assumption)) (by omega) (by omega)) ?_ (fun _ _ _ k => k.elim); rintro _ h_d2 ⟨d2, rfl, d20, d21, b_d2, k_d2⟩
      have e2 := k_d2.new b1
      dsimp! only [e2]
      refine posto_pick d20 (by simpa using d21) (fun x hx => ?_)
      obtain ⟨z, rfl, hz, hz2⟩ : ∃ z, x = .str z ∧ z.length ≤ 2 ∧ ∀ c ∈ z, c ∈ FIG := by
        simp only [List.mem_cons, List.not_mem_nil, or_false] at hx
        rcases hx with rfl | rfl | rfl | rfl | rfl | rfl <;> exact ⟨_, rfl, by decide, by decide⟩
      dsimp! only []
      refine ⟨_, rfl, ⟨?_, ?_⟩, b_d2, k1.trans ((Kp.app _).trans k_d2)⟩
      · cases cs with
        | nil => simp at hl3; omega
        | cons c r =>
          unfold nameOk
          simp only [Bool.and_eq_true, decide_eq_true_eq, List.all_eq_true, List.length_append]
          refine ⟨⟨by simp; simp at hl3; omega, ?_⟩, fun x hx => ?_⟩
          · simpa using hc c (by simp)
          · rcases List.mem_append.mp hx with q | q
            · exact List.mem_append_left _ (hc x q)
            · exact List.mem_append_right _ (hz2 x q)
      · simp; omega
theorem pick_int {l : List Int} {lo hi : Int} {x : U} (h : x ∈ l.map U.int) (k : ∀ i ∈ l, lo ≤ i ∧ i < hi) : ∃ v, x = .int v ∧ lo ≤ v ∧ v < hi := by
  obtain ⟨i, hi, rfl⟩ := List.mem_map.mp h
  exact ⟨i, rfl, k i hi⟩
theorem srow_spec (n b h) (s : List Nat) (gw : GoodW s) (hb : isBox h b) : Post (callF tab fnT (n+2) 39 [.ref b, .str s] h) (fun u h' => ∃ r, u = rowU r ∧ Good r ∧ r.name = s ∧ isBox h' b ∧ Kp [b] h h') nox := by
  rw [q_callF rfl rfl]
  dsimp! only [f39, b39]
  refine Post.mono (take_spec _ b _ _ (by first | assumption | (apply isBox.app; assumption)) (by omega) (by omega)) ?_ (fun _ _ _ k => k.elim); rintro _ h_a1 ⟨a1, rfl, a10, a11, b_a1, k_a1⟩
  dsimp! only []
  refine Post.mono (take_spec _ b _ _ (by first | assumption | (apply isBox.app; assumption)) (by omega) (by omega)) ?_ (fun _ _ _ k => k.elim); rintro _ h_a2 ⟨a2, rfl, a20, a21, b_a2, k_a2⟩
  dsimp! only []
  refine Post.mono (take_spec _ b _ _ (by first | assumption | (apply isBox.app; assumption)) (by omega) (by omega)) ?_ (fun _ _ _ k => k.elim); rintro _ h_a3 ⟨a3, rfl, a30, a31, b_a3, k_a3⟩
  dsimp! only []
  refine Post.mono (take_spec _ b _ _ (by first | assumption | (apply isBox.app; assumption)) (by omega) (by omega)) ?_ (fun _ _ _ k => k.elim); rintro _ h_a4 ⟨a4, rfl, a40, a41, b_a4, k_a4⟩
  have f4 := k_a4.new b_a3
  dsimp! only [f4]
  refine posto_pick a40 (by simpa using a41) (fun x hx => ?_)
  obtain ⟨v, rfl, v0, v1⟩ := pick_int (l := [a1, a2, a3]) (lo := 0) (hi := 200) hx (by simp; omega)
  dsimp! only []
  refine Post.mono (take_spec _ b _ _ (by first | assumption | (apply isBox.app; assumption)) (by omega) (by omega)) ?_ (fun _ _ _ k => k.elim); rintro _ h_c1 ⟨c1, rfl, c10, c11, b_c1, k_c1⟩
  dsimp! only []
  refine Post.mono (take_spec _ b _ _ (by first | assumption | (apply isBox.app; assumption)) (by omega) (by omega)) ?_ (fun _ _ _ k => k.elim); rintro _ h_c2 ⟨c2, rfl, c20, c21, b_c2, k_c2⟩
  dsimp! only []
  refine Post.mono (take_spec _ b _ _ (by first | assumption | (apply isBox.app; assumption)) (by omega) (by omega)) ?_ (fun _ _ _ k => k.elim); rintro _ h_c3 ⟨c3, rfl, c30, c31, b_c3, k_c3⟩
  dsimp! only []
  refine Post.mono (take_spec _ b _ _ (by first | assumption | (apply isBox.app; assumption)) (by omega) (by omega)) ?_ (fun _ _ _ k => k.elim); rintro _ h_c4 ⟨c4, rfl, c40, c41, b_c4, k_c4⟩
  dsimp! only []
  refine Post.mono (take_spec _ b _ _ (by first | assumption | (apply isBox.app; assumption)) (by omega) (by omega)) ?_ (fun _ _ _ k => k.elim); rintro _ h_c5 ⟨c5, rfl, c50, c51, b_c5, k_c5⟩
  have f5 := k_c5.new b_c4
  dsimp! only [f5]
  refine posto_pick c50 (by simpa using c51) (fun x hx => ?_)
  obtain ⟨w, rfl, w0, w1⟩ := pick_int (l := [c1, c2, c3, c4]) (lo := 0) (hi := 30) hx (by simp; omega)
  dsimp! only []
  refine Post.mono (take_spec _ b _ _ (by first | assumption | (apply isBox.app; assumption)) (by omega) (by omega)) ?_ (fun _ _ _ k => k.elim); rintro _ h_e1 ⟨e1, rfl, e10, e11, b_e1, k_e1⟩
  dsimp! only []
  refine Post.mono (take_spec _ b _ _ (by first | assumption | (apply isBox.app; assumption)) (by omega) (by omega)) ?_ (fun _ _ _ k => k.elim); rintro _ h_e2 ⟨e2, rfl, e20, e21, b_e2, k_e2⟩
  dsimp! only []
  refine Post.mono (take_spec _ b _ _ (by first | assumption | (apply isBox.app; assumption)) (by omega) (by omega)) ?_ (fun _ _ _ k => k.elim); rintro _ h_e3 ⟨e3, rfl, e30, e31, b_e3, k_e3⟩
  dsimp! only []
  refine Post.mono (take_spec _ b _ _ (by first | assumption | (apply isBox.app; assumption)) (by omega) (by omega)) ?_ (fun _ _ _ k => k.elim); rintro _ h_e4 ⟨e4, rfl, e40, e41, b_e4, k_e4⟩
  have f6 := k_e4.new b_e3
  dsimp! only [f6]
  refine posto_pick e40 (by simpa using e41) (fun x hx => ?_)
  obtain ⟨z, rfl, z0, z1⟩ := pick_int (l := [e1, e2, e3]) (lo := 0) (hi := 200) hx (by simp; omega)
  dsimp! only []
  generalize hE : (if 199 / (1 + w) < 1 + v then 199 / (1 + w) else 1 + v) = E
  have hq : (1 + w) * (199 / (1 + w)) ≤ 199 := Int.mul_ediv_self_le (by omega)
  have hq2 : 6 ≤ 199 / (1 + w) := (Int.le_ediv_iff_mul_le (by omega)).mpr (by omega)
  have hE0 : 1 ≤ E ∧ E ≤ 200 ∧ E ≤ 199 / (1 + w) := by rw [← hE]; split <;> omega
  obtain ⟨hE1, hE2, hE3⟩ := hE0
  have hM0 : (1 + w) * E ≤ 199 := Int.le_trans (Int.mul_le_mul_of_nonneg_left hE3 (by omega)) hq
  generalize hM : (1 + w - 1) * E = M
  have hM1 : (1 + w) * E = M + E := by rw [← hM, Int.sub_mul]; omega
  have hM2 : 0 ≤ M := by rw [← hM]; exact Int.mul_nonneg (by omega) (by omega)
  generalize hW : (if 200 - M < 1 + z then 200 - M else 1 + z) = W
  have hW0 : 1 ≤ W ∧ W ≤ 200 ∧ W ≤ 200 - M := by rw [← hW]; split <;> omega
  obtain ⟨hW1, hW2, hW3⟩ := hW0
  refine Post.mono (take_spec _ b _ _ (by first | assumption | (apply isBox.app; assumption)) (by omega) (by omega)) ?_ (fun _ _ _ k => k.elim); rintro _ h_f ⟨f, rfl, f0, f1, b_f, k_f⟩
  dsimp! only []
  refine Post.mono (take_spec _ b _ _ (by first | assumption | (apply isBox.app; assumption)) (by omega) (by omega)) ?_ (fun _ _ _ k => k.elim); rintro _ h_g1 ⟨g1, rfl, g10, g11, b_g1, k_g1⟩
  have f7 := k_g1.new b_f
  dsimp! only [f7]
  refine posto_pick g10 (by simpa using g11) (fun x hx => ?_)
  obtain ⟨y, rfl, y0, y1⟩ := pick_int (l := [3, 12]) (lo := 1) (hi := 13) hx (by simp)
  dsimp! only []
  refine Post.mono (take_spec _ b _ _ (by first | assumption | (apply isBox.app; assumption)) (by omega) (by omega)) ?_ (fun _ _ _ k => k.elim); rintro _ h_g2 ⟨g2, rfl, g20, g21, b_g2, k_g2⟩
  dsimp! only []
  refine ⟨⟨s, f, W, 1 + g2, E, 1 + w⟩, rfl, ⟨gw.1, gw.2, ?_, ?_, ?_, ?_, ?_, ?_, ?_, ?_, ?_, ?_, ?_⟩, rfl, b_g2, ?_⟩
  all_goals (try dsimp only)
  all_goals (try omega)
  · exact (((((((((((((k_a1.trans k_a2).trans k_a3).trans ((Kp.app _).trans k_a4)).trans k_c1).trans k_c2).trans k_c3).trans k_c4).trans ((Kp.app _).trans k_c5)).trans k_e1).trans k_e2).trans k_e3).trans ((Kp.app _).trans k_e4)).trans k_f).trans (((Kp.app _).trans k_g1).trans k_g2)
end K78
namespace K78
open Ev
theorem allPcs_len : ∀ {rows : List Row}, (∀ r ∈ rows, Good r) → (allPcs rows).length ≤ 30 * rows.length
  | [], _ => by simp [allPcs]
  | r :: rows, g => by
    have h1 := allPcs_len (rows := rows) fun r hr => g r (by simp [hr])
    have h2 := (g r (by simp)).t1
    have h3 := (g r (by simp)).t0
    have h4 := pcs_len r
    simp only [allPcs, List.flatMap_cons, List.length_append, List.length_cons] at h1 ⊢
    omega
theorem lpieces_eq (n h m) (rows : List Row) (g : ∀ r ∈ rows, Good r) (hl : rows.length ≤ 40) (hm : h[m]? = some (.lst (rows.map rowU))) :
    callF tab fnT (n+1) 40 [.ref m] h = .ok (.ref h.length) (h ++ [.lst ((allPcs rows).map pcU)]) := by
  have hml := lt_of_at hm
  apply eq_of_post
  rw [q_callF rfl rfl]
  dsimp! only [f40, b40, hm]
  refine forL_post (fun pre e h' => ∃ (t2 t3 t4 t5 t6 t7 t8 : Option U), e = [some (.ref m), some (.ref h.length), t2, t3, t4, t5, t6, t7, t8] ∧ h' = h ++ [.lst ((allPcs (rows.take pre.length)).map pcU)]) ?_ ?_ ?_
  · exact ⟨_, _, _, _, _, _, _, rfl, rfl⟩
  · rintro pre u rest e h' hsp ⟨t2, t3, t4, t5, t6, t7, t8, rfl, rfl⟩
    obtain ⟨r, hr, hu, hpre, hsplit⟩ := map_split hsp
    subst hu
    have gr : Good r := g r (List.mem_of_getElem? hr)
    have g1 := gr.nl
    have g2 := gr.t0
    have g3 := gr.t1
    have g4 := gr.e0
    have g5 := gr.e1
    have l1 := allPcs_len (rows := rows.take pre.length) (fun r hr => g r (List.mem_of_mem_take hr))
    have l2 : (rows.take pre.length).length ≤ 40 := by rw [List.length_take]; omega
    have et : rows.take (pre.length + 1) = rows.take pre.length ++ [r] := by rw [List.take_add_one, hr]; rfl
    refine ⟨gd_app hm, ?_⟩
    dsimp! only [rowU]
    refine forL_post (fun pre2 e h' => ∃ (t8 : Option U), e = [some (.ref m), some (.ref h.length), some (.str r.name), some (.int r.first), some (.int r.window), some (.int r.len), some (.int r.every), some (.int r.times), t8] ∧
      h' = h ++ [.lst ((allPcs (rows.take pre.length) ++ (List.range pre2.length).map (pc r)).map pcU)]) ?_ ?_ ?_
    · exact ⟨_, rfl, by simp⟩
    · rintro pre2 u2 rest2 e2 h2 hs2 ⟨t8', rfl, rfl⟩
      obtain ⟨hu2, hl2⟩ := range_split hs2
      subst hu2
      obtain ⟨hk1, hk2⟩ := sInt_small pre2.length (by omega)
      refine ⟨gd_nil, ?_⟩
      dsimp! only []
      exact ⟨_, rfl, by rw [take_range_succ]; simp [pc, pcU]⟩
    · rintro e2 h2 ⟨t8', rfl, rfl⟩
      refine ⟨gd_nil, ?_⟩
      dsimp! only [et]
      exact ⟨_, _, _, _, _, _, _, rfl, by simp [allPcs, pcs]⟩
  · rintro e h' ⟨t2, t3, t4, t5, t6, t7, t8, rfl, rfl⟩
    refine ⟨gd_app hm, ?_⟩
    dsimp! only [List.take_length]
theorem cell_spec (n h m) (ns : List Int) (k : Nat) (hk : k < 63) (hl : ns.length ≤ 63) (hm : h[m]? = some (.frz (.lst (ns.map .int)))) :
    Post (callF tab fnT (n+1) 35 [.ref m, .int k] h) (fun u h' => ∃ c : Int, u = .int c ∧ h' = h) nox := by
  rw [q_callF rfl rfl]
  dsimp! only [f35, b35, hm]
  refine Br.dec (fun a => ?_) (fun a => ?_)
  · dsimp! only [hm]
    have e : (ns.map U.int)[k]? = some (.int (ns[k]'(by omega))) := by rw [List.getElem?_map, List.getElem?_eq_getElem (by omega)]; rfl
    dsimp! only [e]
    exact ⟨_, rfl⟩
  · dsimp! only [hm]
    refine Br.dec (fun b => ?_) (fun b => ?_)
    · dsimp! only []
      exact ⟨_, rfl⟩
    · have p1 : (0 : Int) < (ns.length : Int) := by omega
      have p2 := Int.emod_nonneg (k : Int) (show (ns.length : Int) ≠ 0 by omega)
      have p3 := Int.emod_lt_of_pos (k : Int) p1
      dsimp! only [hm]
      refine posto_pick p2 (by simpa using p3) (fun x hx => ?_)
      obtain ⟨c, _, rfl⟩ := List.mem_map.mp hx
      dsimp! only []
      exact ⟨_, rfl⟩
/-! ### rows drawn -/
theorem firsts_mem {α : Type} [DecidableEq α] {l : List α} {x : α} : x ∈ firsts l ↔ x ∈ l := by
  induction l with
  | nil => simp [firsts]
  | cons y r ih =>
    simp only [firsts, List.mem_cons, List.mem_filter, ih]
    by_cases e : x = y <;> simp [e]
theorem firsts_len {α : Type} [DecidableEq α] : ∀ l : List α, (firsts l).length ≤ l.length
  | [] => Nat.le_refl _
  | x :: r => by
    simp only [firsts, List.length_cons]
    have := List.length_filter_le (fun y => !decide (y = x)) (firsts r)
    have := firsts_len r
    omega
theorem firsts_nodup {α : Type} [DecidableEq α] : ∀ l : List α, (firsts l).length = l.length → l.Nodup
  | [], _ => .nil
  | x :: r, h => by
    simp only [firsts, List.length_cons] at h
    have h1 := List.length_filter_le (fun y => !decide (y = x)) (firsts r)
    have h2 := firsts_len r
    have h3 : ((firsts r).filter fun y => !decide (y = x)).length = (firsts r).length := by omega
    have h4 := firsts_nodup r (by omega)
    refine List.nodup_cons.mpr ⟨fun hx => ?_, h4⟩
    have h5 := List.length_filter_eq_length_iff.mp h3 x (firsts_mem.mpr hx)
    simp at h5
theorem series_spec (n b h) (m : Int) (hm0 : 0 ≤ m) (hm1 : m ≤ 20) (hb : isBox h b) :
    Post (callF tab fnT (n+3) 41 [.ref b, .int m] h) (fun u h' => ∃ rows : List Row, u = .ref h.length ∧ Goods rows ∧ (rows.length : Int) ≤ m ∧ h'[h.length]? = some (.lst (rows.map rowU)) ∧ isBox h' b ∧ Kp [b] h h') nox := by
  have hbl := hb.lt
  rw [q_callF rfl rfl]
  dsimp! only [f41, b41]
  refine Post.mono (take_spec _ b _ _ (by first | assumption | (apply isBox.app; assumption)) (by omega) (by omega)) ?_ (fun _ _ _ k => k.elim); rintro _ h_d ⟨d, rfl, d0, d1, b_d, k_d⟩
  have e0 := k_d.new hb
  dsimp! only []
  refine forL_post (fun pre e h' => ∃ (rows : List Row) (t3 t4 t5 t6 t7 : Option U), e = [some (.ref b), some (.int m), some (.ref h.length), t3, t4, t5, t6, t7] ∧ Goods rows ∧ rows.length ≤ pre.length ∧ h'[h.length]? = some (.lst (rows.map rowU)) ∧ isBox h' b ∧ Kp [b] h h') ?_ ?_ ?_
  · exact ⟨[], _, _, _, _, _, rfl, ⟨by simp, by simp, by simp, by simp⟩, by simp, e0, b_d, (Kp.app _).trans k_d⟩
  · rintro pre u rest e h1 hs ⟨rows, t3, t4, t5, t6, t7, rfl, g, gl, e1, b1, k1⟩
    obtain ⟨hu, hlt⟩ := range_split hs
    subst hu
    refine ⟨gd_nil, ?_⟩
    dsimp! only []
    refine Post.mono (word_spec n b h1 b1) ?_ (fun _ _ _ k => k.elim)
    rintro u2 h2 ⟨s, rfl, gw, b2, k2⟩
    dsimp! only []
    refine Post.mono (srow_spec n b h2 s gw b2) ?_ (fun _ _ _ k => k.elim)
    rintro u3 h3 ⟨r, rfl, gr, rfl, b3, k3⟩
    have e3 := k3.get (k2.get e1 (by simp; omega)) (by simp; omega)
    have e3l := lt_of_at e3
    have hlr := g.len
    have ga : ∀ x ∈ rows ++ [r], Good x := by
      intro x hx
      rcases List.mem_append.mp hx with q | q
      · exact g.all x q
      · rw [List.mem_singleton.mp q]; exact gr
    have lp := lpieces_eq (n+1) (h3 ++ [.lst [rowU r], .lst (rows.map rowU ++ [rowU r])]) (h3.length + 1) (rows ++ [r]) ga (by simp; omega) (by dsimp! only []; simp)
    have lpl := allPcs_len ga
    simp only [List.length_append, List.length_cons, List.length_nil] at lpl
    dsimp! only [e3, lp]
    refine lc_map (allPcs (rows ++ [r])) pcU (fun p => .str p.name) rfl rfl (fun out => by apply gd_one; dsimp! only []) (by omega) (fun x hx out => ?_) ?_
    · dsimp! only [pcU]
    dsimp! only [rowU, e3]
    refine lc_map rows rowU (fun r => .str r.name) rfl rfl (fun out => by apply gd_one; dsimp! only [e3]) (by omega) (fun x hx out => ?_) ?_
    · dsimp! only [rowU]
    dsimp! only []
    have kk : ∀ j, Kp [b] h (h3 ++ j) := fun j => ((k1.trans k2).trans k3).trans (Kp.app j)
    have nn : (allPcs (rows ++ [r])).map (·.name) = (rows ++ [r]).flatMap pnames := allPcs_names _
    refine Br.dec (fun a1 => ?_) (fun a1 => ?_)
    · dsimp! only [a1]
      exact ⟨rows, _, _, _, _, _, rfl, g, by omega, e3, b3.app, kk _⟩
    dsimp! only [a1]
    refine Br.dec (fun a2 => ?_) (fun a2 => ?_)
    · dsimp! only [a2]
      refine Br.dec (fun a3 => ?_) (fun a3 => ?_)
      · dsimp! only [a3, e3]
        refine ⟨rows ++ [r], _, _, _, _, _, rfl, ⟨ga, ?_, ?_, ?_⟩, by simp; omega, by simp [e3l, rowU], (b3.set (by omega)).app, ?_⟩
        · rw [List.map_append, List.nodup_append]
          refine ⟨g.nd, by simp, fun x hx y hy e => ?_⟩
          simp only [List.map_cons, List.map_nil, List.mem_singleton] at hy
          subst hy
          subst e
          exact a1 hx
        · rw [← nn]
          have := firsts_nodup ((allPcs (rows ++ [r])).map (·.name)) (by
            have h9 : ((firsts ((allPcs (rows ++ [r])).map (·.name))).length : Int) = ((allPcs (rows ++ [r])).length : Int) := a2
            rw [List.length_map]; omega)
          exact this
        · rw [← nn, List.length_map]; omega
        · exact (Kp.late ((k1.trans k2).trans k3) (Nat.le_refl _)).trans (Kp.app _)
      · dsimp! only [a3]
        exact ⟨rows, _, _, _, _, _, rfl, g, by omega, e3, b3.app, kk _⟩
    · dsimp! only [a2]
      exact ⟨rows, _, _, _, _, _, rfl, g, by omega, e3, b3.app, kk _⟩
  · rintro e h1 ⟨rows, t3, t4, t5, t6, t7, rfl, g, gl, e1, b1, k1⟩
    refine ⟨gd_nil, ?_⟩
    dsimp! only []
    exact ⟨rows, g, by simp at gl; omega, e1, b1, k1⟩
end K78
namespace K78
open Ev
/-- a thing that is equal to itself, of a kind that is known -/
structure Thing (h : AH) (u : U) : Prop where
  kno : Kno h u
  rfl : ∀ h', sameOr (eqTop 11 h') u u = some true
  sl : ∀ s, u = .str s → s.length ≤ 100
theorem thing_spec (n b h) (hb : isBox h b) : Post (callF tab fnT (n+2) 42 [.ref b] h) (fun u h' => Thing h' u ∧ isBox h' b ∧ Kp [b] h h') nox := by
  have hbl := hb.lt
  rw [q_callF rfl rfl]
  dsimp! only [f42, b42]
  refine Post.mono (take_spec _ b _ _ (by first | assumption | (apply isBox.app; assumption)) (by omega) (by omega)) ?_ (fun _ _ _ k => k.elim); rintro _ h_d ⟨d, rfl, d0, d1, b_d, k_d⟩
  have hd := k_d.get (n := h.length + 10) (app_at.trans rfl) (by simp; omega)
  dsimp! only [hd]
  refine posto_pick d0 ?hl (fun x hx => ?_)
  case hl => simpa using d1
  refine ⟨?_, b_d, (Kp.app _).trans k_d⟩
  simp only [List.mem_cons, List.not_mem_nil, or_false] at hx
  rcases hx with rfl | rfl | rfl | rfl | rfl | rfl | rfl | rfl | rfl | rfl | rfl | rfl | rfl | rfl | rfl | rfl | rfl | rfl | rfl | rfl | rfl | rfl | rfl | rfl | rfl | rfl | rfl | rfl | rfl | rfl | rfl | rfl | rfl | rfl | rfl | rfl | rfl | rfl | rfl | rfl
  all_goals first
    | exact ⟨kno_non, fun _ => rfl, fun s e => by cases e⟩
    | exact ⟨kno_bl, fun _ => rfl, fun s e => by cases e⟩
    | exact ⟨kno_int, fun _ => rfl, fun s e => by cases e⟩
    | exact ⟨kno_str, fun _ => rfl, fun s e => by cases e; decide⟩
    | exact ⟨kno_tup, fun _ => rfl, fun s e => by cases e⟩
    | exact ⟨kno_lst (k_d.get (app_at.trans rfl) (by simp; omega)), fun _ => so_rr, fun s e => by cases e⟩
    | exact ⟨kno_dic (k_d.get (app_at.trans rfl) (by simp; omega)), fun _ => so_rr, fun s e => by cases e⟩
    | skip
end K78
namespace K78
open Ev
theorem cut_len {α : Type} {xs : List α} {a b : Option Int} : (cut xs a b).length ≤ xs.length := by
  unfold cut; simp; omega
theorem cut_sub {α : Type} {xs : List α} {a b : Option Int} {x : α} (h : x ∈ cut xs a b) : x ∈ xs := List.mem_of_mem_drop (List.mem_of_mem_take h)
theorem pick_str {α : Type} {l : List α} {f : α → List Nat} {x : U} (h : x ∈ l.map fun a => U.str (f a)) : ∃ a ∈ l, x = .str (f a) := by
  obtain ⟨a, h1, rfl⟩ := List.mem_map.mp h
  exact ⟨a, h1, rfl⟩
/-- the weight of texts -/
def wt (l : List (List Nat)) : Nat := (l.map List.length).sum + l.length
theorem wt_app (a b : List (List Nat)) : wt (a ++ b) = wt a + wt b := by simp [wt]; omega
theorem wt_cons (a : List Nat) (b : List (List Nat)) : wt (a :: b) = a.length + 1 + wt b := by simp [wt]; omega
theorem wt_drop (a : List (List Nat)) (n : Nat) : wt (a.drop n) ≤ wt a := by
  conv => rhs; rw [← List.take_append_drop n a, wt_app]
  omega
theorem wt_take (a : List (List Nat)) (n : Nat) : wt (a.take n) ≤ wt a := by
  conv => rhs; rw [← List.take_append_drop n a, wt_app]
  omega
theorem wt_cut (xs : List (List Nat)) (a b : Option Int) : wt (cut xs a b) ≤ wt xs := by
  unfold cut
  exact Nat.le_trans (wt_take _ _) (wt_drop _ _)
theorem wt_split (c : Nat) (z : List Nat) : wt (splitS c [] z) = z.length + 1 := by
  have := splitS_sum c z []
  simpa [wt] using this
theorem wt_mem {l : List (List Nat)} {s : List Nat} (h : s ∈ l) : s.length + 1 ≤ wt l := by
  have := mem_len h
  have h3 : 0 < l.length := List.length_pos_of_mem h
  unfold wt; omega
theorem wt_set {l : List (List Nat)} {k : Nat} {s : List Nat} : wt (l.set k s) ≤ wt l + s.length := by
  induction l generalizing k with
  | nil => simp [wt]
  | cons x l ih =>
    cases k with
    | zero => simp only [List.set_cons_zero, wt_cons]; omega
    | succ k =>
      have := ih (k := k)
      simp only [List.set_cons_succ, wt_cons]; omega
theorem wt_join (c : Nat) (l : List (List Nat)) : (joinS [c] l).length ≤ wt l := joinS_len c l
theorem cut_map {α β : Type} {f : α → β} {xs : List α} {a b : Option Int} : cut (xs.map f) a b = (cut xs a b).map f := by
  unfold cut
  simp [List.map_drop, List.map_take]
theorem strs_str : ∀ l : List (List Nat), strsU (l.map U.str) = some l := fun l => by
  have := strs_map id l
  simpa using this
theorem posto_get {α : Type} {xs : List α} {d : Int} {P : α → Prop} (h0 : 0 ≤ d) (h1 : d < xs.length) (k : ∀ x ∈ xs, P x) : PostO xs[d.toNat]? P := by
  have hl : d.toNat < xs.length := by omega
  rw [List.getElem?_eq_getElem hl, PostO.some]
  exact k _ (List.getElem_mem hl)
theorem spoilt_spec (n b h t) (hb : isBox h b) (ht : t.length ≤ 20000) : Post (callF tab fnT (n+2) 50 [.ref b, .str t] h) (fun u h' => ∃ t', u = .str t' ∧ t'.length ≤ 4 * t.length + 40 ∧ isBox h' b ∧ Kp [b] h h') nox := by
  have hbl := hb.lt
  rw [q_callF rfl rfl]
  refine cutAt (fun e H => ∃ (w d : Int) (c : Nat) (t2 : U), 0 ≤ d ∧ d ≤ (t.length : Int) ∧ e = [some (.ref b), some (.str t), some t2, some (.int w), some (.int d), some (.str [c]), none, none, none, none, none] ∧ isBox H b ∧ Kp [b] h H) 5 ?_ ?_
  · dsimp! only [f50, b50]
    refine Post.mono (take_spec _ b _ _ (by first | assumption | (apply isBox.app; assumption)) (by omega) (by omega)) ?_ (fun _ _ _ k => k.elim); rintro _ h_w ⟨w, rfl, w0, w1, b_w, k_w⟩
    dsimp! only []
    refine Post.mono (take_spec _ b _ _ (by first | assumption | (apply isBox.app; assumption)) (by omega) (by omega)) ?_ (fun _ _ _ k => k.elim); rintro _ h_d ⟨d, rfl, d0, d1, b_d, k_d⟩
    dsimp! only []
    refine Post.mono (take_spec _ b _ _ (by first | assumption | (apply isBox.app; assumption)) (by omega) (by omega)) ?_ (fun _ _ _ k => k.elim); rintro _ h_a ⟨a, rfl, a0, a1, b_a, k_a⟩
    dsimp! only []
    refine posto_get a0 (by simpa using a1) (fun c hc => ?_)
    dsimp! only []
    refine Post.mono (take_spec _ b _ _ (by first | assumption | (apply isBox.app; assumption)) (by omega) (by omega)) ?_ (fun _ _ _ k => k.elim); rintro _ h_e ⟨e, rfl, e0, e1, b_e, k_e⟩
    dsimp! only []
    refine posto_get e0 (by simpa using e1) (fun c2 hc2 => ?_)
    dsimp! only []
    refine Post.mono (take_spec _ b _ _ (by first | assumption | (apply isBox.app; assumption)) (by omega) (by omega)) ?_ (fun _ _ _ k => k.elim); rintro _ h_f ⟨f, rfl, f0, f1, b_f, k_f⟩
    have f4 := k_f.new b_e
    dsimp! only [f4]
    refine posto_pick f0 (by simpa using f1) (fun x hx => ?_)
    obtain ⟨z, rfl⟩ : ∃ z, x = .str [z] := by
      simp only [List.mem_cons, List.not_mem_nil, or_false] at hx
      rcases hx with rfl | rfl <;> exact ⟨_, rfl⟩
    dsimp! only []
    exact ⟨w, d, z, _, d0, by omega, rfl, b_f, ((((k_w.trans k_d).trans k_a).trans k_e).trans (Kp.app _)).trans k_f⟩
  · rintro e H ⟨w, d, c, t2, d0, d1, rfl, b1, k1⟩
    have cl : ∀ (a b : Option Int), (cut t a b).length ≤ t.length := fun a b => cut_len
    refine cutAt (fun e H => w ≠ 0 ∧ w ≠ 1 ∧ w ≠ 2 ∧ e = [some (.ref b), some (.str t), some t2, some (.int w), some (.int d), some (.str [c]), none, none, none, none, none] ∧ isBox H b ∧ Kp [b] h H) 3 ?_ ?_
    · dsimp! only [f50, b50]
      have q1 := cl none (some d)
      have q2 := cl (some d) none
      have q3 := cl (some (d + 1)) none
      refine Br.dec (fun a1 => ?_) (fun a1 => ?_)
      · dsimp! only []
        exact ⟨_, rfl, by simp; omega, b1, k1⟩
      dsimp! only []
      refine Br.dec (fun a2 => ?_) (fun a2 => ?_)
      · dsimp! only []
        exact ⟨_, rfl, by simp; omega, b1, k1⟩
      dsimp! only []
      refine Br.dec (fun a3 => ?_) (fun a3 => ?_)
      · dsimp! only []
        exact ⟨_, rfl, by simp; omega, b1, k1⟩
      dsimp! only []
      exact ⟨a1, a2, a3, b1, k1⟩
    · rintro e H ⟨w0, w1, w2, rfl, b1, k1⟩
      refine cutAt (fun e H => ∃ (m : Nat) (L : List (List Nat)) (t7 t8 t9 t10 : Option U), e = [some (.ref b), some (.str t), some t2, some (.int w), some (.int d), some (.str [c]), some (.ref m), t7, t8, t9, t10] ∧ H[m]? = some (.lst (L.map U.str)) ∧ wt L ≤ 4 * t.length + 40 ∧ isBox H b ∧ Kp [b] h H) 5 ?_ ?_
      · have hne := splitS_ne 10 t []
        have hwt := wt_split 10 t
        dsimp! only [f50, b50]
        generalize splitS 10 [] t = L at *
        have hLl : 0 < L.length := List.length_pos_iff.mpr hne
        have hLm : L.length ≤ t.length + 1 := by have : L.length ≤ wt L := by unfold wt; omega
                                                 omega
        have hbH := b1.lt
        refine Post.mono (take_spec _ b _ _ (by first | assumption | (apply isBox.app; assumption)) (by omega) (by omega)) ?_ (fun _ _ _ k => k.elim); rintro _ h_l ⟨l, rfl, l0, l1, b_l, k_l⟩
        have hl := k_l.new b1
        dsimp! only [hl]
        refine posto_pick l0 (by simpa using l1) (fun x hx => ?_)
        obtain ⟨s, hs, rfl⟩ := pick_str (f := id) (by simpa using hx)
        have hsw := wt_mem hs
        simp only [id_eq]
        have hneM := splitS_ne 32 s []
        have hwM := wt_split 32 s
        dsimp! only []
        generalize splitS 32 [] s = M at *
        have hMl : 0 < M.length := List.length_pos_iff.mpr hneM
        have hMm : M.length ≤ s.length + 1 := by have : M.length ≤ wt M := by unfold wt; omega
                                                 omega
        have hll := lt_of_at hl
        refine Post.mono (take_spec _ b _ _ (by first | assumption | (apply isBox.app; assumption)) (by omega) (by omega)) ?_ (fun _ _ _ k => k.elim); rintro _ h_p ⟨p, rfl, p0, p1, b_p, k_p⟩
        have hk := k_p.new b_l
        have hl2 := k_p.get (n := H.length) (by rw [List.getElem?_append_left hll, hl]) (by simp; omega)
        have hkl := lt_of_at hk
        have hll2 := lt_of_at hl2
        have hne2 : H.length ≠ b := by omega
        have hne3 : h_l.length ≠ b := by omega
        have kk : Kp [b] h h_p := ((k1.trans (Kp.app _)).trans k_l).trans ((Kp.app _).trans k_p)
        have hHh : h.length ≤ H.length := k1.le
        clear hl k_l k_p hll
        have sumw : ∀ X : List (List Nat), (X.map List.length).sum + X.length * ([32] : List Nat).length = wt X := fun X => by simp [wt]
        have fin : ∀ (hh : AH) (s' : List Nat) (J : AH), isBox hh b → Kp [b] h hh → H.length < hh.length → s'.length ≤ 2 * t.length + 20 → (hh.set H.length (.lst ((L.map U.str).set l.toNat (.str s'))) ++ J)[H.length]? = some (.lst ((L.set l.toNat s').map U.str)) ∧ wt (L.set l.toNat s') ≤ 4 * t.length + 40 ∧ isBox (hh.set H.length (.lst ((L.map U.str).set l.toNat (.str s'))) ++ J) b ∧ Kp [b] h (hh.set H.length (.lst ((L.map U.str).set l.toNat (.str s'))) ++ J) := fun hh s' J bb kb lb q => by
          refine ⟨?_, ?_, (bb.set (Ne.symm hne2)).app, (kb.late hHh).trans (Kp.app _)⟩
          · rw [List.getElem?_append_left (by simpa using lb), List.getElem?_set_self lb, List.map_set]
          · have := wt_set (l := L) (k := l.toNat) (s := s')
            omega
        have cw : ∀ X : List (List Nat), X.length ≤ wt X := fun X => by unfold wt; omega
        dsimp! only []
        refine Br.dec (fun a3 => ?_) (fun a3 => ?_)
        · have w3 := wt_app (cut M none (some p)) (cut M (some (p + 1)) none)
          have w3a := wt_cut M none (some p)
          have w3b := wt_cut M (some (p + 1)) none
          have gk : ((cut M none (some p) ++ cut M (some (p + 1)) none).map List.length).sum + (cut M none (some p) ++ cut M (some (p + 1)) none).length * ([32] : List Nat).length ≤ 100000 := by rw [sumw]; omega
          have gj := wt_join 32 (cut M none (some p) ++ cut M (some (p + 1)) none)
          have gl1 := cw (cut M none (some p))
          have gl2 := cw (cut M (some (p + 1)) none)
          dsimp! only [a3, hk, hl2, cut_map, ← List.map_append, strs_str, jnR_ok gk]
          obtain ⟨f1, f2, f3, f4⟩ := fin h_p (joinS [32] (cut M none (some p) ++ cut M (some (p + 1)) none)) _ b_p kk hll2 (by omega)
          exact ⟨_, _, _, _, _, _, rfl, f1, f2, f3, f4⟩
        dsimp! only [a3]
        refine Br.dec (fun a4 => ?_) (fun a4 => ?_)
        · have w3 := wt_app (cut M none (some (p + 1))) (cut M (some p) none)
          have w3a := wt_cut M none (some (p + 1))
          have w3b := wt_cut M (some p) none
          have gk : ((cut M none (some (p + 1)) ++ cut M (some p) none).map List.length).sum + (cut M none (some (p + 1)) ++ cut M (some p) none).length * ([32] : List Nat).length ≤ 100000 := by rw [sumw]; omega
          have gj := wt_join 32 (cut M none (some (p + 1)) ++ cut M (some p) none)
          have gl1 := cw (cut M none (some (p + 1)))
          have gl2 := cw (cut M (some p) none)
          dsimp! only [a4, hk, hl2, cut_map, ← List.map_append, strs_str, jnR_ok gk]
          obtain ⟨f1, f2, f3, f4⟩ := fin h_p (joinS [32] (cut M none (some (p + 1)) ++ cut M (some p) none)) _ b_p kk hll2 (by omega)
          exact ⟨_, _, _, _, _, _, rfl, f1, f2, f3, f4⟩
        dsimp! only [a4]
        refine Br.dec (fun a5 => ?_) (fun a5 => ?_)
        · dsimp! only []
          refine Post.mono (take_spec _ b _ _ (by first | assumption | (apply isBox.app; assumption)) (by omega) (by omega)) ?_ (fun _ _ _ k => k.elim); rintro _ h_o ⟨o, rfl, o0, o1, b_o, k_o⟩
          have ho := k_o.new b_p
          have hk3 := k_o.get (n := h_l.length) (by rw [List.getElem?_append_left hkl, hk]) (by simp; omega)
          have hl3 := k_o.get (n := H.length) (by rw [List.getElem?_append_left hll2, hl2]) (by simp; omega)
          have kk3 : Kp [b] h h_o := kk.trans ((Kp.app _).trans k_o)
          have hkl3 := lt_of_at hk3
          have hll3 := lt_of_at hl3
          clear k_o
          dsimp! only [ho]
          refine posto_pick o0 (by simpa using o1) (fun x hx => ?_)
          obtain ⟨z, rfl, hz⟩ : ∃ z, x = .str z ∧ z.length ≤ 7 := by
            simp only [List.mem_cons, List.not_mem_nil, or_false] at hx
            rcases hx with rfl | rfl | rfl | rfl | rfl | rfl | rfl | rfl | rfl | rfl <;> exact ⟨_, rfl, by decide⟩
          have w3 := wt_app (cut M none (some p)) (z :: cut M (some (p + 1)) none)
          have w4 := wt_cons z (cut M (some (p + 1)) none)
          have w3a := wt_cut M none (some p)
          have w3b := wt_cut M (some (p + 1)) none
          have gk : ((cut M none (some p) ++ (z :: cut M (some (p + 1)) none)).map List.length).sum + (cut M none (some p) ++ (z :: cut M (some (p + 1)) none)).length * ([32] : List Nat).length ≤ 100000 := by rw [sumw]; omega
          have gj := wt_join 32 (cut M none (some p) ++ (z :: cut M (some (p + 1)) none))
          have gl1 := cw (cut M none (some p))
          have gl2 := cw (cut M (some (p + 1)) none)
          have eL : (cut M none (some p)).map U.str ++ U.str z :: (cut M (some (p + 1)) none).map U.str = (cut M none (some p) ++ z :: cut M (some (p + 1)) none).map U.str := by simp
          dsimp! only [a5, hk3, hl3, cut_map, eL, strs_str, jnR_ok gk]
          obtain ⟨f1, f2, f3, f4⟩ := fin h_o (joinS [32] (cut M none (some p) ++ (z :: cut M (some (p + 1)) none))) _ b_o kk3 hll3 (by omega)
          exact ⟨_, _, _, _, _, _, rfl, f1, f2, f3, f4⟩
        dsimp! only [a5, hl2]
        have hidx : l.toNat < L.length := by omega
        have hLl2 : (L.map U.str)[l.toNat]? = some (.str L[l.toNat]) := by rw [List.getElem?_map, List.getElem?_eq_getElem hidx]; rfl
        have hLw := wt_mem (List.getElem_mem hidx)
        dsimp! only [hLl2]
        refine Post.mono (take_spec _ b _ _ (by first | assumption | (apply isBox.app; assumption)) (by omega) (by omega)) ?_ (fun _ _ _ k => k.elim); rintro _ h_o ⟨o, rfl, o0, o1, b_o, k_o⟩
        have ho := k_o.get (n := h_p.length + 1) (by rw [app_at]; rfl) (by simp; omega)
        have ho2 := k_o.get (n := h_p.length) (by rw [app_at0]; rfl) (by simp; omega)
        have hl3 := k_o.get (n := H.length) (by rw [List.getElem?_append_left hll2, hl2]) (by simp; omega)
        have kk3 : Kp [b] h h_o := kk.trans ((Kp.app _).trans k_o)
        have hll3 := lt_of_at hl3
        have hol := lt_of_at ho
        have hol2 := lt_of_at ho2
        clear k_o
        have w3 := wt_app (cut L none (some l)) (cut [L[l.toNat], []] (some o) none ++ cut L (some l) none)
        have w4 := wt_app (cut [L[l.toNat], []] (some o) none) (cut L (some l) none)
        have w3a := wt_cut L none (some l)
        have w3b := wt_cut L (some l) none
        have w3c := wt_cut [L[l.toNat], []] (some o) none
        have w3d : wt [L[l.toNat], []] = L[l.toNat].length + 2 := by simp [wt]
        have gl1 := cw (cut L none (some l))
        have gl2 := cw (cut L (some l) none)
        have gl3 := cw (cut [L[l.toNat], []] (some o) none)
        have e2 : [U.str L[l.toNat], .str []] = [L[l.toNat], []].map U.str := rfl
        dsimp! only [ho, ho2, hl3, e2, cut_map]
        refine ⟨_, cut L none (some l) ++ (cut [L[l.toNat], []] (some o) none ++ cut L (some l) none), _, _, _, _, rfl, ?_, by omega, b_o.app, kk3.trans (Kp.app _)⟩
        rw [app_at]
        simp
      · rintro e H ⟨m, L, t7, t8, t9, t10, rfl, hm, hL, b1, k1⟩
        have gk : (L.map List.length).sum + L.length * ([10] : List Nat).length ≤ 100000 := by
          have : (L.map List.length).sum + L.length * ([10] : List Nat).length = wt L := by simp [wt]
          omega
        have gj := wt_join 10 L
        dsimp! only [f50, b50, hm, strs_str, jnR_ok gk]
        exact ⟨_, rfl, by omega, b1, k1⟩
end K78
namespace K78
open Ev
theorem fault_int {t k w} (h : faultT t = some (k, w)) : ∃ i : Int, k = .int i := by
  unfold faultT at h
  split at h
  · cases h; exact ⟨_, rfl⟩
  · unfold serT at h
    split at h
    · cases h; exact ⟨_, rfl⟩
    · cases z : serF [] (rowsT t) with
      | none => rw [z] at h; cases h
      | some p => rw [z] at h; cases h; exact ⟨_, rfl⟩
theorem fault_rows {t} (h : faultT t = none) : ∃ rows : List Row, rowsT t = rows.map rowU := by
  unfold faultT at h
  split at h
  · cases h
  · unfold serT at h
    split at h
    · cases h
    · cases z : serF [] (rowsT t) with
      | some p => rw [z] at h; cases h
      | none =>
        obtain ⟨b, e, _⟩ := serF_good (a := []) ⟨by simp, by simp, by simp, by simp⟩ z
        exact ⟨b, e⟩
theorem so_row' (r : Row) (h : AH) : sameOr (eqTop 10 h) (rowU r) (rowU r) = some true := by
  simp only [rowU]
  rw [so_tt]
  simp [ae_cons, ae_nil, so_ss, so_ii]
theorem ae_rows' (rows : List Row) (h : AH) : allEq (sameOr (eqTop 10 h)) (rows.map rowU) (rows.map rowU) = some true := ae_self fun x hx => by
  obtain ⟨r, _, rfl⟩ := List.mem_map.mp hx
  exact so_row' r h
theorem eq_due (h : AH) (t : List Nat) : eqU h (dueT t) (dueT t) = some true := by
  unfold dueT
  split
  · rename_i k w e
    obtain ⟨i, rfl⟩ := fault_int e
    rw [eq_tt]
    simp [ae_cons, ae_nil, so_ss, so_ii]
  · rename_i e
    obtain ⟨rows, er⟩ := fault_rows e
    rw [er, eq_tt]
    have := ae_rows' rows h
    simp [ae_cons, ae_nil, so_ss, so_tt, this]
theorem eq_bad (h : AH) : eqU h (.tup [.str BAD, .int 0, .str FORM]) (.tup [.str BAD, .int 0, .str FORM]) = some true := by
  rw [eq_tt]
  simp [ae_cons, ae_nil, so_ss, so_ii]
theorem due_text {rows : List Row} (g : Goods rows) : dueT (textOf rows) = .tup [.str ROWS, .tup (rows.map rowU), .str (textOf rows)] := by
  unfold dueT
  rw [g.fault, g.rowsT]
theorem law_spec (n) (ns : List Int) (hn : ns.length ≤ 63) :
    Post (callF tab fnT (n+10) 51 [.ref 0] [.frz (.lst (ns.map .int))]) (fun u h' => u = .bl true) nox := by
  rw [q_callF rfl rfl]
  dsimp! only [f51, b51]
  have r1 : ∃ k : Nat, k ≤ 40 ∧ (if (if (40 : Int) < (ns.length : Int) then 40 else (ns.length : Int)) > 8 then (if (40 : Int) < (ns.length : Int) then 40 else (ns.length : Int)) else 8) = (k : Int) := by
    refine ⟨(if (if (40 : Int) < (ns.length : Int) then 40 else (ns.length : Int)) > 8 then (if (40 : Int) < (ns.length : Int) then 40 else (ns.length : Int)) else 8).toNat, ?_, ?_⟩
    · split <;> split <;> omega
    · split <;> split <;> omega
  obtain ⟨K, hK, eK⟩ := r1
  rw [eK]
  dsimp! only []
  refine forL_post (fun pre e h' => ∃ (t1 t2 t3 t4 t5 t6 t7 : Option U), e = [some (.ref 0), t1, t2, t3, t4, t5, t6, t7] ∧ h'[0]? = some (.frz (.lst (ns.map .int)))) ?_ ?_ ?_
  · exact ⟨_, _, _, _, _, _, _, rfl, rfl⟩
  · rintro pre u rest e h hsp ⟨t1, t2, t3, t4, t5, t6, t7, rfl, h0⟩
    obtain ⟨hu, hlt⟩ := range_split hsp
    subst hu
    clear hsp
    refine ⟨gd_nil, ?_⟩
    simp only [forB_name]
    -- the rows and their text
    refine cutAt (fun e H => ∃ (b R : Nat) (rows : List Row) (t5 t6 t7 : Option U), e = [some (.ref 0), some (.int pre.length), some (.ref b), some (.ref R), some (.str (textOf rows)), t5, t6, t7] ∧ Goods rows ∧ rows.length ≤ 6 ∧ H[R]? = some (.lst (rows.map rowU)) ∧ isBox H b ∧ R ≠ b ∧ b ≠ 0 ∧ H[0]? = some (.frz (.lst (ns.map .int)))) 3 ?_ ?_
    · dsimp! only []
      refine Post.mono (cell_spec (n+8) h 0 ns pre.length (by omega) hn h0) ?_ (fun _ _ _ k => k.elim)
      rintro u h1 ⟨c, rfl, rfl⟩
      dsimp! only []
      refine Post.mono (box_spec (n+8) h1 c) ?_ (fun _ _ _ k => k.elim)
      rintro u h2 ⟨rfl, o, rfl, hb⟩
      dsimp! only []
      refine Post.mono (series_spec (n+6) h1.length _ 6 (by omega) (by omega) hb) ?_ (fun _ _ _ k => k.elim)
      rintro u h3 ⟨rows, rfl, g, gl, hr, hb3, k3⟩
      have h0l := lt_of_at h0
      have s3 : h3[0]? = some (.frz (.lst (ns.map .int))) := k3.get (by rw [List.getElem?_append_left h0l, h0]) (by simp; omega)
      have hRb : (h1 ++ [o]).length ≠ h1.length := by simp
      have hb0 : h1.length ≠ 0 := by omega
      clear k3 hb h0
      generalize (h1 ++ [o]).length = R at *
      generalize h1.length = b at *
      have hrl := lt_of_at hr
      have gt := g.lines
      have g30 := g.len
      dsimp! only [hr]
      refine lc_callH rows rowU (fun r => .str (lineOf r)) rfl rfl (fun j => gd_app hr) (by omega) (fun x hx j' => ?_) (fun H j' hH => ?_)
      · have gx := g.all x hx
        obtain ⟨a, b, c, d, e⟩ := gx.nums
        obtain ⟨_, a1, a2, _⟩ := numV_sInt a.1 a.2
        obtain ⟨_, b1, b2, _⟩ := numV_sInt b.1 b.2
        obtain ⟨_, c1, c2, _⟩ := numV_sInt c.1 c.2
        obtain ⟨_, d1, d2, _⟩ := numV_sInt d.1 d.2
        obtain ⟨_, e1, e2, _⟩ := numV_sInt e.1 e.2
        have h7 := gx.nl
        dsimp! only [lcF_name, rowU]
        refine lc_map [U.str x.name, .int x.first, .int x.window, .int x.len, .int x.every, .int x.times] id (fun u => match u with | .str s => .str s | .int i => .str (sInt i) | _ => .non) (by simp) rfl (fun out => gd_nil) (by simp) (fun y hy out => ?_) ?_
        · simp only [List.mem_cons, List.not_mem_nil, or_false] at hy
          rcases hy with rfl | rfl | rfl | rfl | rfl | rfl <;> dsimp! only [lcF_name, bi_strs]
        have e : strsU [U.str x.name, .str (sInt x.first), .str (sInt x.window), .str (sInt x.len), .str (sInt x.every), .str (sInt x.times)] = some (wordsOf x) := rfl
        have hl : ((wordsOf x).map List.length).sum + (wordsOf x).length * 1 ≤ 100000 := by simp [wordsOf]; omega
        dsimp! only [List.map_cons, List.map_nil, e]
        exact ⟨rfl, _, rfl⟩
      have hm2 : H[h3.length]? = some (.lst (rows.map fun r => .str (lineOf r))) := by rw [hH]; dsimp! only []
      have es : strsU (rows.map fun r => U.str (lineOf r)) = some (rows.map lineOf) := strs_map _ _
      have gk : ((rows.map lineOf).map List.length).sum + (rows.map lineOf).length * ([10] : List Nat).length ≤ 100000 := by simp only [List.length_map, List.length_cons, List.length_nil]; omega
      dsimp! only [hm2, es, jnR_ok gk]
      exact ⟨b, R, rows, _, _, _, rfl, g, by omega, by rw [hH, List.getElem?_append_left hrl, hr], by rw [hH]; exact hb3.app, hRb, hb0, by rw [hH, List.getElem?_append_left (lt_of_at s3), s3]⟩
    · rintro e H ⟨b, R, rows, t5, t6, t7, rfl, g, g6, hr, hb, hRb, hb0, s0⟩
      have tl := g.textLen
      have hrl := lt_of_at hr
      have s0l := lt_of_at s0
      refine cutAt (fun e H => ∃ (t : List Nat) (t5 t6 t7 : Option U), e = [some (.ref 0), some (.int pre.length), some (.ref b), some (.ref R), some (.str t), t5, t6, t7] ∧ t.length ≤ 20000 ∧ isBox H b ∧ H[0]? = some (.frz (.lst (ns.map .int)))) 2 ?_ ?_
      · dsimp! only []
        refine Post.mono (answer_spec (n+3) H (textOf rows) (by omega)) ?_ (fun _ _ _ k => k.elim)
        rintro u h1 ⟨rfl, j, rfl⟩
        rw [due_text g]
        have eq := eq_due (H ++ j) (textOf rows)
        rw [due_text g] at eq
        have er : [114, 111, 119, 115] = ROWS := rfl
        dsimp! only [hr, er, ae_rows']
        refine Post.mono (take_spec _ b _ _ (by first | assumption | (apply isBox.app; assumption)) (by omega) (by omega)) ?_ (fun _ _ _ k => k.elim); rintro _ h_d ⟨d, rfl, d0, d1, b_d, k_d⟩
        dsimp! only []
        have hl : (1 + d).toNat ≤ 3 := by omega
        refine forL_post (fun pre2 e h' => ∃ (t : List Nat) (t5 t6 t7 : Option U), e = [some (.ref 0), some (.int pre.length), some (.ref b), some (.ref R), some (.str t), t5, t6, t7] ∧ t.length + 14 ≤ 260 * 4 ^ pre2.length ∧ isBox h' b ∧ h'[0]? = some (.frz (.lst (ns.map .int)))) ?_ ?_ ?_
        · exact ⟨textOf rows, _, _, _, rfl, by simp; omega, b_d, k_d.get (by rw [List.getElem?_append_left s0l, s0]) (by simp; omega)⟩
        · rintro pre2 u rest2 e h2 hs2 ⟨t, t5, t6, t7, rfl, htl, hb2, s2⟩
          obtain ⟨hu2, hlt2⟩ := range_split hs2
          subst hu2
          have h4 : 4 ^ pre2.length ≤ 4 ^ 2 := Nat.pow_le_pow_right (by omega) (by omega)
          refine ⟨gd_nil, ?_⟩
          dsimp! only [forB_name]
          refine Post.mono (spoilt_spec (n+7) b h2 t hb2 (by omega)) ?_ (fun _ _ _ k => k.elim)
          rintro u h3 ⟨t', rfl, ht', hb3, k3⟩
          dsimp! only []
          exact ⟨_, _, _, _, rfl, by rw [Nat.pow_succ]; omega, hb3, k3.get s2 (by simp; omega)⟩
        · rintro e h2 ⟨t, t5, t6, t7, rfl, htl, hb2, s2⟩
          refine ⟨gd_nil, ?_⟩
          have h4 : 4 ^ ((List.range (1 + d).toNat).map fun (k : Nat) => U.int (k : Int)).length ≤ 4 ^ 3 := Nat.pow_le_pow_right (by omega) (by simpa using hl)
          dsimp! only []
          exact ⟨_, _, _, _, rfl, by omega, hb2, s2⟩
      · rintro e h2 ⟨t, t5, t6, t7, rfl, htl, hb2, s2⟩
        have s2l := lt_of_at s2
        dsimp! only []
        refine Post.mono (answer_spec (n+3) h2 t (by omega)) ?_ (fun _ _ _ k => k.elim)
        rintro u h3 ⟨rfl, j3, rfl⟩
        dsimp! only []
        refine Post.mono (due_spec (n+4) _ t (by omega)) ?_ (fun _ _ _ k => k.elim)
        rintro u h4 ⟨rfl, j4, rfl⟩
        dsimp! only [eq_due]
        refine Post.mono (thing_spec (n+7) b _ hb2.app) ?_ (fun _ _ _ k => k.elim)
        rintro u h5 ⟨tu, hb5, k5⟩
        have s5 := k5.get (n := 0) (by rw [List.getElem?_append_left s2l, s2]) (by simp; omega)
        have s5l := lt_of_at s5
        dsimp! only []
        cases hs : isStrU u with
        | true =>
          obtain ⟨z, rfl⟩ : ∃ z, u = .str z := by cases u <;> first | exact ⟨_, rfl⟩ | cases hs
          have hz := tu.sl z rfl
          refine Post.mono (answer_spec (n+3) h5 z (by omega)) ?_ (fun _ _ _ k => k.elim)
          rintro u h6 ⟨rfl, j6, rfl⟩
          dsimp! only []
          refine Post.mono (due_spec (n+4) _ z (by omega)) ?_ (fun _ _ _ k => k.elim)
          rintro u h7 ⟨rfl, j7, rfl⟩
          dsimp! only [eq_due]
          exact ⟨_, _, _, _, _, _, _, rfl, s5⟩
        | false =>
          refine Post.mono (answer_no (n+3) h5 u tu.kno hs) ?_ (fun _ _ _ k => k.elim)
          rintro u6 h6 ⟨rfl, rfl⟩
          dsimp! only []
          refine Post.mono (due_no (n+4) h6 u tu.kno hs) ?_ (fun _ _ _ k => k.elim)
          rintro u7 h7 ⟨rfl, rfl⟩
          dsimp! only [eq_bad]
          exact ⟨_, _, _, _, _, _, _, rfl, s5⟩
  · rintro e h' ⟨t1, t2, t3, t4, t5, t6, t7, rfl, h0⟩
    refine ⟨gd_nil, ?_⟩
    dsimp! only []
end K78
namespace K78
theorem ev_law : ∀ ns : List Int, ns.length ≤ 63 → ∃ h', Ev.callF tab fnT 10 51 [.ref 0] [.frz (.lst (ns.map Ev.U.int))] = .ok (.bl true) h' := fun ns hn => by
  have p := law_spec 0 ns hn
  cases z : Ev.callF tab fnT 10 51 [.ref 0] [.frz (.lst (ns.map Ev.U.int))] with
  | ok u h => rw [z, Ev.Post.ok] at p; rw [p]; exact ⟨h, rfl⟩
  | exc c xs h => rw [z, Ev.Post.exc] at p; exact p.elim
  | bad => rw [z, Ev.Post.bad] at p; exact p.elim
end K78
namespace K78
open PySem PySem.Spec PyProof.Rows L2 EvS He
open Ev (U AO AH DK)
def top (i : Nat) : Stmt := PySem.Challenge.pw_failslack_k78_texts_of_series.main.body.getD i (.Pass ⟨0, 0, 0, 0⟩)
abbrev s0 : Stmt := top 0
def n0 : List Str := ["k"]
abbrev p0 : List Str := ["k"]
abbrev s1 : Stmt := top 12
def n1 : List Str := ["thing"]
abbrev p1 : List Str := ["thing"]
abbrev s2 : Stmt := top 13
def n2 : List Str := ["thing", "low", "high"]
abbrev p2 : List Str := ["thing", "low", "high"]
abbrev s3 : Stmt := top 14
def n3 : List Str := ["thing", "sign"]
abbrev p3 : List Str := ["thing"]
abbrev s4 : Stmt := top 15
def n4 : List Str := ["thing", "sign"]
abbrev p4 : List Str := ["thing"]
abbrev s5 : Stmt := top 20
def n5 : List Str := ["row"]
abbrev p5 : List Str := ["row"]
abbrev s6 : Stmt := top 21
def n6 : List Str := ["known", "row"]
abbrev p6 : List Str := ["known", "row"]
abbrev s7 : Stmt := top 23
def n7 : List Str := ["row"]
abbrev p7 : List Str := ["row"]
abbrev s8 : Stmt := top 24
def n8 : List Str := ["rows", "found", "at", "row", "why"]
abbrev p8 : List Str := ["rows"]
abbrev s9 : Stmt := inClass (top 25) 0
def n9 : List Str := ["self", "rows"]
abbrev p9 : List Str := ["self", "rows"]
abbrev s10 : Stmt := inClass (top 25) 1
def n10 : List Str := ["self"]
abbrev p10 : List Str := ["self"]
abbrev s11 : Stmt := inClass (top 25) 2
def n11 : List Str := ["self"]
abbrev p11 : List Str := ["self"]
abbrev s12 : Stmt := inClass (top 25) 3
def n12 : List Str := ["self", "thing"]
abbrev p12 : List Str := ["self", "thing"]
abbrev s13 : Stmt := inClass (top 25) 4
def n13 : List Str := ["self", "name"]
abbrev p13 : List Str := ["self", "name"]
abbrev s14 : Stmt := inClass (top 25) 5
def n14 : List Str := ["self", "row"]
abbrev p14 : List Str := ["self", "row"]
abbrev s15 : Stmt := inClass (top 25) 6
def n15 : List Str := ["self", "name"]
abbrev p15 : List Str := ["self", "name"]
abbrev s16 : Stmt := inClass (top 25) 7
def n16 : List Str := ["self", "name", "row"]
abbrev p16 : List Str := ["self", "name", "row"]
abbrev s17 : Stmt := inClass (top 25) 8
def n17 : List Str := ["self", "name", "last"]
abbrev p17 : List Str := ["self", "name", "last"]
abbrev s18 : Stmt := inClass (top 25) 9
def n18 : List Str := ["self", "name", "left"]
abbrev p18 : List Str := ["self", "name", "left"]
abbrev s19 : Stmt := inClass (top 25) 10
def n19 : List Str := ["self", "now"]
abbrev p19 : List Str := ["self", "now"]
abbrev s20 : Stmt := top 29
def n20 : List Str := ["row", "name", "first", "window", "length", "every", "times", "found", "number", "start"]
abbrev p20 : List Str := ["row"]
abbrev s21 : Stmt := top 30
def n21 : List Str := ["known", "row", "word", "low", "high", "thing"]
abbrev p21 : List Str := ["known", "row"]
abbrev s22 : Stmt := top 32
def n22 : List Str := ["held", "row", "fresh", "piece", "name"]
abbrev p22 : List Str := ["held", "row"]
abbrev s23 : Stmt := top 33
def n23 : List Str := ["piece"]
abbrev p23 : List Str := ["piece"]
abbrev s24 : Stmt := inClass (top 34) 0
def n24 : List Str := ["self", "rows", "at", "row", "why", "number", "piece"]
abbrev p24 : List Str := ["self", "rows"]
abbrev s25 : Stmt := inClass (top 34) 1
def n25 : List Str := ["self"]
abbrev p25 : List Str := ["self"]
abbrev s26 : Stmt := inClass (top 34) 2
def n26 : List Str := ["self"]
abbrev p26 : List Str := ["self"]
abbrev s27 : Stmt := inClass (top 34) 3
def n27 : List Str := ["self", "name"]
abbrev p27 : List Str := ["self", "name"]
abbrev s28 : Stmt := inClass (top 34) 4
def n28 : List Str := ["self", "found", "row"]
abbrev p28 : List Str := ["self"]
abbrev s29 : Stmt := inClass (top 34) 5
def n29 : List Str := ["self", "name", "turn"]
abbrev p29 : List Str := ["self", "name", "turn"]
abbrev s30 : Stmt := inClass (top 34) 6
def n30 : List Str := ["self", "name"]
abbrev p30 : List Str := ["self", "name"]
abbrev s31 : Stmt := inClass (top 34) 7
def n31 : List Str := ["self", "turn"]
abbrev p31 : List Str := ["self", "turn"]
abbrev s32 : Stmt := top 37
def n32 : List Str := ["line", "words", "numbers", "word"]
abbrev p32 : List Str := ["line"]
abbrev s33 : Stmt := top 38
def n33 : List Str := ["text", "rows", "found", "at", "why", "e", "line"]
abbrev p33 : List Str := ["text"]
abbrev s34 : Stmt := top 39
def n34 : List Str := ["series", "row", "thing"]
abbrev p34 : List Str := ["series"]
abbrev s35 : Stmt := top 41
def n35 : List Str := ["_law_script", "_law_k"]
abbrev p35 : List Str := ["_law_script", "_law_k"]
abbrev s36 : Stmt := top 42
def n36 : List Str := ["_law_cell_here"]
abbrev p36 : List Str := ["_law_cell_here"]
abbrev s37 : Stmt := top 43
def n37 : List Str := ["_law_box_here", "_law_many", "_law_digit", "_law_number_here"]
abbrev p37 : List Str := ["_law_box_here", "_law_many"]
abbrev s38 : Stmt := top 44
def n38 : List Str := ["_law_box_here", "_law_letters", "_law_signs", "_law_head", "_law_k"]
abbrev p38 : List Str := ["_law_box_here"]
abbrev s39 : Stmt := top 45
def n39 : List Str := ["_law_box_here", "_law_name", "_law_every", "_law_times", "_law_window", "_law_first"]
abbrev p39 : List Str := ["_law_box_here", "_law_name"]
abbrev s40 : Stmt := top 46
def n40 : List Str := ["_law_rows", "_law_found", "_law_name", "_law_first", "_law_window", "_law_length", "_law_every", "_law_times", "_law_k"]
abbrev p40 : List Str := ["_law_rows"]
abbrev s41 : Stmt := top 47
def n41 : List Str := ["_law_box_here", "_law_most", "_law_rows", "_law_k", "_law_row_here", "_law_names", "_law_piece", "_law_one"]
abbrev p41 : List Str := ["_law_box_here", "_law_most"]
abbrev s42 : Stmt := top 48
def n42 : List Str := ["_law_box_here", "_law_some"]
abbrev p42 : List Str := ["_law_box_here"]
abbrev s43 : Stmt := top 49
def n43 : List Str := ["_law_thing_here", "_law_low", "_law_high"]
abbrev p43 : List Str := ["_law_thing_here", "_law_low", "_law_high"]
abbrev s44 : Stmt := top 50
def n44 : List Str := ["_law_row_here", "_law_ahead", "_law_letters", "_law_ends", "_law_at", "_law_word_here", "_law_low", "_law_high", "_law_mine", "_law_others", "_law_one", "_law_sign", "_law_k", "_law_name"]
abbrev p44 : List Str := ["_law_row_here", "_law_ahead"]
abbrev s45 : Stmt := top 51
def n45 : List Str := ["_law_thing_here", "_law_at", "_law_row_here", "_law_why"]
abbrev p45 : List Str := ["_law_thing_here"]
abbrev s46 : Stmt := top 52
def n46 : List Str := ["_law_word_here", "_law_sign"]
abbrev p46 : List Str := ["_law_word_here"]
abbrev s47 : Stmt := top 53
def n47 : List Str := ["_law_line", "_law_words", "_law_letters", "_law_numbers", "_law_word_here", "_law_sign"]
abbrev p47 : List Str := ["_law_line"]
abbrev s48 : Stmt := top 54
def n48 : List Str := ["_law_thing_here", "_law_rows", "_law_fault_here", "_law_line"]
abbrev p48 : List Str := ["_law_thing_here"]
abbrev s49 : Stmt := top 55
def n49 : List Str := ["_law_thing_here", "_law_told", "_law_series_here", "_law_text", "e"]
abbrev p49 : List Str := ["_law_thing_here"]
abbrev s50 : Stmt := top 56
def n50 : List Str := ["_law_box_here", "_law_text", "_law_signs", "_law_way", "_law_at", "_law_sign", "_law_lines", "_law_line", "_law_words", "_law_word_here", "_law_other"]
abbrev p50 : List Str := ["_law_box_here", "_law_text"]
abbrev s51 : Stmt := top 57
def n51 : List Str := ["_law_script", "_law_k", "_law_box_here", "_law_rows", "_law_text", "_law_lap", "_law_thing_here", "_law_row_here"]
abbrev p51 : List Str := ["_law_script"]
abbrev t1 : Stmt := inClass (top 3) 0
abbrev q1 : List Str := ["self", "at", "why"]
abbrev t2 : Stmt := inClass (top 4) 0
abbrev q2 : List Str := ["self", "at", "why"]
abbrev t3 : Stmt := inClass (top 5) 0
abbrev q3 : List Str := ["self", "found"]
abbrev t4 : Stmt := inClass (top 6) 0
abbrev q4 : List Str := ["self", "at", "why"]
def gfL : List (Str × Nat) := [(("_wall" : Str), 0), (("is_whole" : Str), 1), (("is_within" : Str), 2), (("is_name" : Str), 3), (("number_of" : Str), 4), (("window_fault" : Str), 5), (("row_fault" : Str), 21), (("row_fault_pieces" : Str), 6), (("five_of" : Str), 7), (("five_rows" : Str), 8), (("pieces_of" : Str), 20), (("row_fault_series" : Str), 21), (("meeting_fault" : Str), 22), (("row_key" : Str), 23), (("series_row" : Str), 32), (("read_series" : Str), 33), (("show_series" : Str), 34), (("_law_cell" : Str), 35), (("_law_box" : Str), 36), (("_law_take" : Str), 37), (("_law_word" : Str), 38), (("_law_series_row" : Str), 39), (("_law_series_pieces" : Str), 40), (("_law_series" : Str), 41), (("_law_thing" : Str), 42), (("_law_whole" : Str), 43), (("_law_row_fault" : Str), 44), (("_law_fault" : Str), 45), (("_law_number" : Str), 46), (("_law_row" : Str), 47), (("_law_due" : Str), 48), (("_law_answer" : Str), 49), (("_law_spoilt" : Str), 50), (("law" : Str), 51)]
def gcL : List (Str × Nat) := [(("SlackError" : Str), 0), (("BadPieces" : Str), 1), (("BadText" : Str), 2), (("NoPiece" : Str), 3), (("BadSeries" : Str), 4), (("Pieces" : Str), 5), (("Series" : Str), 6)]
def gkL : List (Str × Nat) := [(("FIGURES" : Str), 0), (("LETTERS" : Str), 1), (("LONGEST_NAME_words" : Str), 2), (("MOST_FIGURES" : Str), 3), (("MOST_PIECES" : Str), 4), (("MOST_TURN" : Str), 5), (("MOST_LENGTH" : Str), 6), (("LONGEST_NAME_series" : Str), 7), (("THINGS" : Str), 8), (("WORDS" : Str), 9)]
def anL : List Str := ["at", "why", "found", "__init__", "told", "names", "has", "row", "with_row", "without", "put_at", "with_last", "with_left", "since", "pieces", "begun_at", "whose", "open_at", "fives", "held", "known"]
def hxL : List Nat := [0, 1, 2, 3, 4]
def paL : List (Str × Option Str) := [(("_wall" : Str), (none : Option Str)), (("is_whole" : Str), (none : Option Str)), (("is_within" : Str), (none : Option Str)), (("is_name" : Str), (none : Option Str)), (("number_of" : Str), (none : Option Str)), (("window_fault" : Str), (none : Option Str)), (("row_fault_pieces" : Str), (none : Option Str)), (("five_of" : Str), (none : Option Str)), (("five_rows" : Str), (none : Option Str)), (("Pieces" : Str), some ("__init__" : Str)), (("Pieces" : Str), some ("told" : Str)), (("Pieces" : Str), some ("names" : Str)), (("Pieces" : Str), some ("has" : Str)), (("Pieces" : Str), some ("row" : Str)), (("Pieces" : Str), some ("with_row" : Str)), (("Pieces" : Str), some ("without" : Str)), (("Pieces" : Str), some ("put_at" : Str)), (("Pieces" : Str), some ("with_last" : Str)), (("Pieces" : Str), some ("with_left" : Str)), (("Pieces" : Str), some ("since" : Str)), (("pieces_of" : Str), (none : Option Str)), (("row_fault" : Str), (none : Option Str)), (("meeting_fault" : Str), (none : Option Str)), (("row_key" : Str), (none : Option Str)), (("Series" : Str), some ("__init__" : Str)), (("Series" : Str), some ("told" : Str)), (("Series" : Str), some ("names" : Str)), (("Series" : Str), some ("row" : Str)), (("Series" : Str), some ("pieces" : Str)), (("Series" : Str), some ("begun_at" : Str)), (("Series" : Str), some ("whose" : Str)), (("Series" : Str), some ("open_at" : Str)), (("series_row" : Str), (none : Option Str)), (("read_series" : Str), (none : Option Str)), (("show_series" : Str), (none : Option Str)), (("_law_cell" : Str), (none : Option Str)), (("_law_box" : Str), (none : Option Str)), (("_law_take" : Str), (none : Option Str)), (("_law_word" : Str), (none : Option Str)), (("_law_series_row" : Str), (none : Option Str)), (("_law_series_pieces" : Str), (none : Option Str)), (("_law_series" : Str), (none : Option Str)), (("_law_thing" : Str), (none : Option Str)), (("_law_whole" : Str), (none : Option Str)), (("_law_row_fault" : Str), (none : Option Str)), (("_law_fault" : Str), (none : Option Str)), (("_law_number" : Str), (none : Option Str)), (("_law_row" : Str), (none : Option Str)), (("_law_due" : Str), (none : Option Str)), (("_law_answer" : Str), (none : Option Str)), (("_law_spoilt" : Str), (none : Option Str)), (("law" : Str), (none : Option Str))]
def clL : List Str := ["SlackError", "BadPieces", "BadText", "NoPiece", "BadSeries", "Pieces", "Series"]
def sig (K : PySem.W.Frag) : Sig := ⟨tab, fnT, anL, fun k => fAd K (paL.getD k (("" : Str), (none : Option Str))), fun c => ga K (clL.getD c ""), fun x => gfL.lookup x, fun x => gcL.lookup x, fun x => gkL.lookup x, fun k => hxL.contains k, K⟩
def tabs : Tabs := ⟨gfL, gcL, gkL, [(5, 9), (6, 24)], [(5, 4, 10), (5, 5, 11), (5, 6, 12), (5, 7, 13), (5, 8, 14), (5, 9, 15), (5, 10, 16), (5, 11, 17), (5, 12, 18), (5, 13, 19), (6, 4, 25), (6, 5, 26), (6, 7, 27), (6, 14, 28), (6, 15, 29), (6, 16, 30), (6, 17, 31)], [(5, 18), (6, 20), (6, 19)], [], [(1, [0, 1]), (2, [0, 1]), (3, [2]), (4, [0, 1])], hxL⟩
def xkL (K : PySem.W.Frag) : List (Nat × Addr) := [(1, fAd K (("BadPieces" : Str), some ("__init__" : Str))), (2, fAd K (("BadText" : Str), some ("__init__" : Str))), (3, fAd K (("NoPiece" : Str), some ("__init__" : Str))), (4, fAd K (("BadSeries" : Str), some ("__init__" : Str)))]
theorem fnT_lt {k d} (h : fnT k = some d) : k < 52 := by
  unfold fnT at h
  split at h <;> first | omega | cases h
theorem tab2 (K : PySem.W.Frag) : Tab2 (sig K) tabs where
  gf := rfl
  gc := rfl
  gk := rfl
  ini := fun c f h => by
    change iniT c = some f at h
    unfold iniT at h
    split at h <;> first | (cases h; exact ⟨by decide, _, rfl⟩) | cases h
  mt := fun c m f h => by
    change mtT c m = some f at h
    unfold mtT at h
    split at h <;> first | (cases h; exact ⟨by decide, _, rfl⟩) | cases h
  fl := fun c f h => by
    change flT c f = true at h
    unfold flT at h
    split at h <;> first | (cases h; decide) | cases h
  isi := fun c d b h => by
    change isbT c d = some b at h
    unfold isbT at h
    cases h
  xo := fun c h => by
    change xfT c ≠ [] at h
    change (c, xfT c) ∈ tabs.xo ∧ (xfT c).length ≤ 2
    unfold xfT at h ⊢
    split at h <;> first | (exact ⟨by decide, by decide⟩) | exact absurd rfl h
  hx := fun k h => by
    change hxL.contains k = true at h
    exact List.contains_iff_mem.mp h
  fns := fun x k h => by
    have : ∀ p ∈ gfL, (fnT p.2).isSome = true := by decide
    exact Option.isSome_iff_exists.mp (this _ h)
  an := by show anL.Nodup; decide +kernel
theorem sc0 : FnScope n0 p0 (defScope s0) := ⟨rfl, rfl, rfl, by decide +kernel, rfl, by decide +kernel, by decide +kernel⟩
theorem ch0 (K : PySem.W.Frag) : chSs (sig K) n0 (defScope s0) b0 (defBody s0) = true := by kernel_rfl
theorem df0 {K : PySem.W.Frag} (e : fnObs K (("_wall" : Str), (none : Option Str)) = some (("_wall" : Str), ("_wall" : Str), defArgs s0, .stmts (defBody s0), defScope s0, mainGlobals, [], .none, builtinsNs)) (c : (Fa.code (("_wall" : Str), (none : Option Str)) "_wall").ok K = true) (k : PySem.W.keepIn K (.ref (fAd K (("_wall" : Str), (none : Option Str)))) = true) : Def1 (sig K) K 0 f0 := by
  obtain ⟨fd, F⟩ := fun_he (st := s0) e c k
  exact ⟨_, _, s0, fd, n0, p0, F, sc0, rfl, rfl, ch0 K, F.binds fun _ _ _ _ _ _ us hl => match us, hl with | [_], _ => rfl⟩
theorem sc1 : FnScope n1 p1 (defScope s1) := ⟨rfl, rfl, rfl, by decide +kernel, rfl, by decide +kernel, by decide +kernel⟩
theorem ch1 (K : PySem.W.Frag) : chSs (sig K) n1 (defScope s1) b1 (defBody s1) = true := by kernel_rfl
theorem df1 {K : PySem.W.Frag} (e : fnObs K (("is_whole" : Str), (none : Option Str)) = some (("is_whole" : Str), ("is_whole" : Str), defArgs s1, .stmts (defBody s1), defScope s1, mainGlobals, [], .none, builtinsNs)) (c : (Fa.code (("is_whole" : Str), (none : Option Str)) "is_whole").ok K = true) (k : PySem.W.keepIn K (.ref (fAd K (("is_whole" : Str), (none : Option Str)))) = true) : Def1 (sig K) K 1 f1 := by
  obtain ⟨fd, F⟩ := fun_he (st := s1) e c k
  exact ⟨_, _, s1, fd, n1, p1, F, sc1, rfl, rfl, ch1 K, F.binds fun _ _ _ _ _ _ us hl => match us, hl with | [_], _ => rfl⟩
theorem sc2 : FnScope n2 p2 (defScope s2) := ⟨rfl, rfl, rfl, by decide +kernel, rfl, by decide +kernel, by decide +kernel⟩
theorem ch2 (K : PySem.W.Frag) : chSs (sig K) n2 (defScope s2) b2 (defBody s2) = true := by kernel_rfl
theorem df2 {K : PySem.W.Frag} (e : fnObs K (("is_within" : Str), (none : Option Str)) = some (("is_within" : Str), ("is_within" : Str), defArgs s2, .stmts (defBody s2), defScope s2, mainGlobals, [], .none, builtinsNs)) (c : (Fa.code (("is_within" : Str), (none : Option Str)) "is_within").ok K = true) (k : PySem.W.keepIn K (.ref (fAd K (("is_within" : Str), (none : Option Str)))) = true) : Def1 (sig K) K 2 f2 := by
  obtain ⟨fd, F⟩ := fun_he (st := s2) e c k
  exact ⟨_, _, s2, fd, n2, p2, F, sc2, rfl, rfl, ch2 K, F.binds fun _ _ _ _ _ _ us hl => match us, hl with | [_, _, _], _ => rfl⟩
theorem sc3 : FnScope n3 p3 (defScope s3) := ⟨rfl, rfl, rfl, by decide +kernel, rfl, by decide +kernel, by decide +kernel⟩
theorem ch3 (K : PySem.W.Frag) : chSs (sig K) n3 (defScope s3) b3 (defBody s3) = true := by kernel_rfl
theorem df3 {K : PySem.W.Frag} (e : fnObs K (("is_name" : Str), (none : Option Str)) = some (("is_name" : Str), ("is_name" : Str), defArgs s3, .stmts (defBody s3), defScope s3, mainGlobals, [], .none, builtinsNs)) (c : (Fa.code (("is_name" : Str), (none : Option Str)) "is_name").ok K = true) (k : PySem.W.keepIn K (.ref (fAd K (("is_name" : Str), (none : Option Str)))) = true) : Def1 (sig K) K 3 f3 := by
  obtain ⟨fd, F⟩ := fun_he (st := s3) e c k
  exact ⟨_, _, s3, fd, n3, p3, F, sc3, rfl, rfl, ch3 K, F.binds fun _ _ _ _ _ _ us hl => match us, hl with | [_], _ => rfl⟩
theorem sc4 : FnScope n4 p4 (defScope s4) := ⟨rfl, rfl, rfl, by decide +kernel, rfl, by decide +kernel, by decide +kernel⟩
theorem ch4 (K : PySem.W.Frag) : chSs (sig K) n4 (defScope s4) b4 (defBody s4) = true := by kernel_rfl
theorem df4 {K : PySem.W.Frag} (e : fnObs K (("number_of" : Str), (none : Option Str)) = some (("number_of" : Str), ("number_of" : Str), defArgs s4, .stmts (defBody s4), defScope s4, mainGlobals, [], .none, builtinsNs)) (c : (Fa.code (("number_of" : Str), (none : Option Str)) "number_of").ok K = true) (k : PySem.W.keepIn K (.ref (fAd K (("number_of" : Str), (none : Option Str)))) = true) : Def1 (sig K) K 4 f4 := by
  obtain ⟨fd, F⟩ := fun_he (st := s4) e c k
  exact ⟨_, _, s4, fd, n4, p4, F, sc4, rfl, rfl, ch4 K, F.binds fun _ _ _ _ _ _ us hl => match us, hl with | [_], _ => rfl⟩
theorem sc5 : FnScope n5 p5 (defScope s5) := ⟨rfl, rfl, rfl, by decide +kernel, rfl, by decide +kernel, by decide +kernel⟩
theorem ch5 (K : PySem.W.Frag) : chSs (sig K) n5 (defScope s5) b5 (defBody s5) = true := by kernel_rfl
theorem df5 {K : PySem.W.Frag} (e : fnObs K (("window_fault" : Str), (none : Option Str)) = some (("window_fault" : Str), ("window_fault" : Str), defArgs s5, .stmts (defBody s5), defScope s5, mainGlobals, [], .none, builtinsNs)) (c : (Fa.code (("window_fault" : Str), (none : Option Str)) "window_fault").ok K = true) (k : PySem.W.keepIn K (.ref (fAd K (("window_fault" : Str), (none : Option Str)))) = true) : Def1 (sig K) K 5 f5 := by
  obtain ⟨fd, F⟩ := fun_he (st := s5) e c k
  exact ⟨_, _, s5, fd, n5, p5, F, sc5, rfl, rfl, ch5 K, F.binds fun _ _ _ _ _ _ us hl => match us, hl with | [_], _ => rfl⟩
theorem sc6 : FnScope n6 p6 (defScope s6) := ⟨rfl, rfl, rfl, by decide +kernel, rfl, by decide +kernel, by decide +kernel⟩
theorem ch6 (K : PySem.W.Frag) : chSs (sig K) n6 (defScope s6) b6 (defBody s6) = true := by kernel_rfl
theorem df6 {K : PySem.W.Frag} (e : fnObs K (("row_fault_pieces" : Str), (none : Option Str)) = some (("row_fault" : Str), ("row_fault" : Str), defArgs s6, .stmts (defBody s6), defScope s6, mainGlobals, [], .none, builtinsNs)) (c : (Fa.code (("row_fault_pieces" : Str), (none : Option Str)) "row_fault").ok K = true) (k : PySem.W.keepIn K (.ref (fAd K (("row_fault_pieces" : Str), (none : Option Str)))) = true) : Def1 (sig K) K 6 f6 := by
  obtain ⟨fd, F⟩ := fun_he (st := s6) e c k
  exact ⟨_, _, s6, fd, n6, p6, F, sc6, rfl, rfl, ch6 K, F.binds fun _ _ _ _ _ _ us hl => match us, hl with | [_, _], _ => rfl⟩
theorem sc7 : FnScope n7 p7 (defScope s7) := ⟨rfl, rfl, rfl, by decide +kernel, rfl, by decide +kernel, by decide +kernel⟩
theorem ch7 (K : PySem.W.Frag) : chSs (sig K) n7 (defScope s7) b7 (defBody s7) = true := by kernel_rfl
theorem df7 {K : PySem.W.Frag} (e : fnObs K (("five_of" : Str), (none : Option Str)) = some (("five_of" : Str), ("five_of" : Str), defArgs s7, .stmts (defBody s7), defScope s7, mainGlobals, [], .none, builtinsNs)) (c : (Fa.code (("five_of" : Str), (none : Option Str)) "five_of").ok K = true) (k : PySem.W.keepIn K (.ref (fAd K (("five_of" : Str), (none : Option Str)))) = true) : Def1 (sig K) K 7 f7 := by
  obtain ⟨fd, F⟩ := fun_he (st := s7) e c k
  exact ⟨_, _, s7, fd, n7, p7, F, sc7, rfl, rfl, ch7 K, F.binds fun _ _ _ _ _ _ us hl => match us, hl with | [_], _ => rfl⟩
theorem sc8 : FnScope n8 p8 (defScope s8) := ⟨rfl, rfl, rfl, by decide +kernel, rfl, by decide +kernel, by decide +kernel⟩
theorem ch8 (K : PySem.W.Frag) : chSs (sig K) n8 (defScope s8) b8 (defBody s8) = true := by kernel_rfl
theorem df8 {K : PySem.W.Frag} (e : fnObs K (("five_rows" : Str), (none : Option Str)) = some (("five_rows" : Str), ("five_rows" : Str), defArgs s8, .stmts (defBody s8), defScope s8, mainGlobals, [], .none, builtinsNs)) (c : (Fa.code (("five_rows" : Str), (none : Option Str)) "five_rows").ok K = true) (k : PySem.W.keepIn K (.ref (fAd K (("five_rows" : Str), (none : Option Str)))) = true) : Def1 (sig K) K 8 f8 := by
  obtain ⟨fd, F⟩ := fun_he (st := s8) e c k
  exact ⟨_, _, s8, fd, n8, p8, F, sc8, rfl, rfl, ch8 K, F.binds fun _ _ _ _ _ _ us hl => match us, hl with | [_], _ => rfl⟩
theorem sc9 : FnScope n9 p9 (defScope s9) := ⟨rfl, rfl, rfl, by decide +kernel, rfl, by decide +kernel, by decide +kernel⟩
theorem ch9 (K : PySem.W.Frag) : chSs (sig K) n9 (defScope s9) b9 (defBody s9) = true := by kernel_rfl
theorem df9 {K : PySem.W.Frag} (e : fnObs K (("Pieces" : Str), some ("__init__" : Str)) = some (("__init__" : Str), ("Pieces.__init__" : Str), defArgs s9, .stmts (defBody s9), defScope s9, mainGlobals, [], .none, builtinsNs)) (c : (Fa.code (("Pieces" : Str), some ("__init__" : Str)) "Pieces.__init__").ok K = true) (k : PySem.W.keepIn K (.ref (fAd K (("Pieces" : Str), some ("__init__" : Str)))) = true) : Def1 (sig K) K 9 f9 := by
  obtain ⟨fd, F⟩ := fun_he (st := s9) e c k
  exact ⟨_, _, s9, fd, n9, p9, F, sc9, rfl, rfl, ch9 K, F.binds fun _ _ _ _ _ _ us hl => match us, hl with | [_, _], _ => rfl⟩
theorem sc10 : FnScope n10 p10 (defScope s10) := ⟨rfl, rfl, rfl, by decide +kernel, rfl, by decide +kernel, by decide +kernel⟩
theorem ch10 (K : PySem.W.Frag) : chSs (sig K) n10 (defScope s10) b10 (defBody s10) = true := by kernel_rfl
theorem df10 {K : PySem.W.Frag} (e : fnObs K (("Pieces" : Str), some ("told" : Str)) = some (("told" : Str), ("Pieces.told" : Str), defArgs s10, .stmts (defBody s10), defScope s10, mainGlobals, [], .none, builtinsNs)) (c : (Fa.code (("Pieces" : Str), some ("told" : Str)) "Pieces.told").ok K = true) (k : PySem.W.keepIn K (.ref (fAd K (("Pieces" : Str), some ("told" : Str)))) = true) : Def1 (sig K) K 10 f10 := by
  obtain ⟨fd, F⟩ := fun_he (st := s10) e c k
  exact ⟨_, _, s10, fd, n10, p10, F, sc10, rfl, rfl, ch10 K, F.binds fun _ _ _ _ _ _ us hl => match us, hl with | [_], _ => rfl⟩
theorem sc11 : FnScope n11 p11 (defScope s11) := ⟨rfl, rfl, rfl, by decide +kernel, rfl, by decide +kernel, by decide +kernel⟩
theorem ch11 (K : PySem.W.Frag) : chSs (sig K) n11 (defScope s11) b11 (defBody s11) = true := by kernel_rfl
theorem df11 {K : PySem.W.Frag} (e : fnObs K (("Pieces" : Str), some ("names" : Str)) = some (("names" : Str), ("Pieces.names" : Str), defArgs s11, .stmts (defBody s11), defScope s11, mainGlobals, [], .none, builtinsNs)) (c : (Fa.code (("Pieces" : Str), some ("names" : Str)) "Pieces.names").ok K = true) (k : PySem.W.keepIn K (.ref (fAd K (("Pieces" : Str), some ("names" : Str)))) = true) : Def1 (sig K) K 11 f11 := by
  obtain ⟨fd, F⟩ := fun_he (st := s11) e c k
  exact ⟨_, _, s11, fd, n11, p11, F, sc11, rfl, rfl, ch11 K, F.binds fun _ _ _ _ _ _ us hl => match us, hl with | [_], _ => rfl⟩
theorem sc12 : FnScope n12 p12 (defScope s12) := ⟨rfl, rfl, rfl, by decide +kernel, rfl, by decide +kernel, by decide +kernel⟩
theorem ch12 (K : PySem.W.Frag) : chSs (sig K) n12 (defScope s12) b12 (defBody s12) = true := by kernel_rfl
theorem df12 {K : PySem.W.Frag} (e : fnObs K (("Pieces" : Str), some ("has" : Str)) = some (("has" : Str), ("Pieces.has" : Str), defArgs s12, .stmts (defBody s12), defScope s12, mainGlobals, [], .none, builtinsNs)) (c : (Fa.code (("Pieces" : Str), some ("has" : Str)) "Pieces.has").ok K = true) (k : PySem.W.keepIn K (.ref (fAd K (("Pieces" : Str), some ("has" : Str)))) = true) : Def1 (sig K) K 12 f12 := by
  obtain ⟨fd, F⟩ := fun_he (st := s12) e c k
  exact ⟨_, _, s12, fd, n12, p12, F, sc12, rfl, rfl, ch12 K, F.binds fun _ _ _ _ _ _ us hl => match us, hl with | [_, _], _ => rfl⟩
theorem sc13 : FnScope n13 p13 (defScope s13) := ⟨rfl, rfl, rfl, by decide +kernel, rfl, by decide +kernel, by decide +kernel⟩
theorem ch13 (K : PySem.W.Frag) : chSs (sig K) n13 (defScope s13) b13 (defBody s13) = true := by kernel_rfl
theorem df13 {K : PySem.W.Frag} (e : fnObs K (("Pieces" : Str), some ("row" : Str)) = some (("row" : Str), ("Pieces.row" : Str), defArgs s13, .stmts (defBody s13), defScope s13, mainGlobals, [], .none, builtinsNs)) (c : (Fa.code (("Pieces" : Str), some ("row" : Str)) "Pieces.row").ok K = true) (k : PySem.W.keepIn K (.ref (fAd K (("Pieces" : Str), some ("row" : Str)))) = true) : Def1 (sig K) K 13 f13 := by
  obtain ⟨fd, F⟩ := fun_he (st := s13) e c k
  exact ⟨_, _, s13, fd, n13, p13, F, sc13, rfl, rfl, ch13 K, F.binds fun _ _ _ _ _ _ us hl => match us, hl with | [_, _], _ => rfl⟩
theorem sc14 : FnScope n14 p14 (defScope s14) := ⟨rfl, rfl, rfl, by decide +kernel, rfl, by decide +kernel, by decide +kernel⟩
theorem ch14 (K : PySem.W.Frag) : chSs (sig K) n14 (defScope s14) b14 (defBody s14) = true := by kernel_rfl
theorem df14 {K : PySem.W.Frag} (e : fnObs K (("Pieces" : Str), some ("with_row" : Str)) = some (("with_row" : Str), ("Pieces.with_row" : Str), defArgs s14, .stmts (defBody s14), defScope s14, mainGlobals, [], .none, builtinsNs)) (c : (Fa.code (("Pieces" : Str), some ("with_row" : Str)) "Pieces.with_row").ok K = true) (k : PySem.W.keepIn K (.ref (fAd K (("Pieces" : Str), some ("with_row" : Str)))) = true) : Def1 (sig K) K 14 f14 := by
  obtain ⟨fd, F⟩ := fun_he (st := s14) e c k
  exact ⟨_, _, s14, fd, n14, p14, F, sc14, rfl, rfl, ch14 K, F.binds fun _ _ _ _ _ _ us hl => match us, hl with | [_, _], _ => rfl⟩
theorem sc15 : FnScope n15 p15 (defScope s15) := ⟨rfl, rfl, rfl, by decide +kernel, rfl, by decide +kernel, by decide +kernel⟩
theorem ch15 (K : PySem.W.Frag) : chSs (sig K) n15 (defScope s15) b15 (defBody s15) = true := by kernel_rfl
theorem df15 {K : PySem.W.Frag} (e : fnObs K (("Pieces" : Str), some ("without" : Str)) = some (("without" : Str), ("Pieces.without" : Str), defArgs s15, .stmts (defBody s15), defScope s15, mainGlobals, [], .none, builtinsNs)) (c : (Fa.code (("Pieces" : Str), some ("without" : Str)) "Pieces.without").ok K = true) (k : PySem.W.keepIn K (.ref (fAd K (("Pieces" : Str), some ("without" : Str)))) = true) : Def1 (sig K) K 15 f15 := by
  obtain ⟨fd, F⟩ := fun_he (st := s15) e c k
  exact ⟨_, _, s15, fd, n15, p15, F, sc15, rfl, rfl, ch15 K, F.binds fun _ _ _ _ _ _ us hl => match us, hl with | [_, _], _ => rfl⟩
theorem sc16 : FnScope n16 p16 (defScope s16) := ⟨rfl, rfl, rfl, by decide +kernel, rfl, by decide +kernel, by decide +kernel⟩
theorem ch16 (K : PySem.W.Frag) : chSs (sig K) n16 (defScope s16) b16 (defBody s16) = true := by kernel_rfl
theorem df16 {K : PySem.W.Frag} (e : fnObs K (("Pieces" : Str), some ("put_at" : Str)) = some (("put_at" : Str), ("Pieces.put_at" : Str), defArgs s16, .stmts (defBody s16), defScope s16, mainGlobals, [], .none, builtinsNs)) (c : (Fa.code (("Pieces" : Str), some ("put_at" : Str)) "Pieces.put_at").ok K = true) (k : PySem.W.keepIn K (.ref (fAd K (("Pieces" : Str), some ("put_at" : Str)))) = true) : Def1 (sig K) K 16 f16 := by
  obtain ⟨fd, F⟩ := fun_he (st := s16) e c k
  exact ⟨_, _, s16, fd, n16, p16, F, sc16, rfl, rfl, ch16 K, F.binds fun _ _ _ _ _ _ us hl => match us, hl with | [_, _, _], _ => rfl⟩
theorem sc17 : FnScope n17 p17 (defScope s17) := ⟨rfl, rfl, rfl, by decide +kernel, rfl, by decide +kernel, by decide +kernel⟩
theorem ch17 (K : PySem.W.Frag) : chSs (sig K) n17 (defScope s17) b17 (defBody s17) = true := by kernel_rfl
theorem df17 {K : PySem.W.Frag} (e : fnObs K (("Pieces" : Str), some ("with_last" : Str)) = some (("with_last" : Str), ("Pieces.with_last" : Str), defArgs s17, .stmts (defBody s17), defScope s17, mainGlobals, [], .none, builtinsNs)) (c : (Fa.code (("Pieces" : Str), some ("with_last" : Str)) "Pieces.with_last").ok K = true) (k : PySem.W.keepIn K (.ref (fAd K (("Pieces" : Str), some ("with_last" : Str)))) = true) : Def1 (sig K) K 17 f17 := by
  obtain ⟨fd, F⟩ := fun_he (st := s17) e c k
  exact ⟨_, _, s17, fd, n17, p17, F, sc17, rfl, rfl, ch17 K, F.binds fun _ _ _ _ _ _ us hl => match us, hl with | [_, _, _], _ => rfl⟩
theorem sc18 : FnScope n18 p18 (defScope s18) := ⟨rfl, rfl, rfl, by decide +kernel, rfl, by decide +kernel, by decide +kernel⟩
theorem ch18 (K : PySem.W.Frag) : chSs (sig K) n18 (defScope s18) b18 (defBody s18) = true := by kernel_rfl
theorem df18 {K : PySem.W.Frag} (e : fnObs K (("Pieces" : Str), some ("with_left" : Str)) = some (("with_left" : Str), ("Pieces.with_left" : Str), defArgs s18, .stmts (defBody s18), defScope s18, mainGlobals, [], .none, builtinsNs)) (c : (Fa.code (("Pieces" : Str), some ("with_left" : Str)) "Pieces.with_left").ok K = true) (k : PySem.W.keepIn K (.ref (fAd K (("Pieces" : Str), some ("with_left" : Str)))) = true) : Def1 (sig K) K 18 f18 := by
  obtain ⟨fd, F⟩ := fun_he (st := s18) e c k
  exact ⟨_, _, s18, fd, n18, p18, F, sc18, rfl, rfl, ch18 K, F.binds fun _ _ _ _ _ _ us hl => match us, hl with | [_, _, _], _ => rfl⟩
theorem sc19 : FnScope n19 p19 (defScope s19) := ⟨rfl, rfl, rfl, by decide +kernel, rfl, by decide +kernel, by decide +kernel⟩
theorem ch19 (K : PySem.W.Frag) : chSs (sig K) n19 (defScope s19) b19 (defBody s19) = true := by kernel_rfl
theorem df19 {K : PySem.W.Frag} (e : fnObs K (("Pieces" : Str), some ("since" : Str)) = some (("since" : Str), ("Pieces.since" : Str), defArgs s19, .stmts (defBody s19), defScope s19, mainGlobals, [], .none, builtinsNs)) (c : (Fa.code (("Pieces" : Str), some ("since" : Str)) "Pieces.since").ok K = true) (k : PySem.W.keepIn K (.ref (fAd K (("Pieces" : Str), some ("since" : Str)))) = true) : Def1 (sig K) K 19 f19 := by
  obtain ⟨fd, F⟩ := fun_he (st := s19) e c k
  exact ⟨_, _, s19, fd, n19, p19, F, sc19, rfl, rfl, ch19 K, F.binds fun _ _ _ _ _ _ us hl => match us, hl with | [_, _], _ => rfl⟩
theorem sc20 : FnScope n20 p20 (defScope s20) := ⟨rfl, rfl, rfl, by decide +kernel, rfl, by decide +kernel, by decide +kernel⟩
theorem ch20 (K : PySem.W.Frag) : chSs (sig K) n20 (defScope s20) b20 (defBody s20) = true := by kernel_rfl
theorem df20 {K : PySem.W.Frag} (e : fnObs K (("pieces_of" : Str), (none : Option Str)) = some (("pieces_of" : Str), ("pieces_of" : Str), defArgs s20, .stmts (defBody s20), defScope s20, mainGlobals, [], .none, builtinsNs)) (c : (Fa.code (("pieces_of" : Str), (none : Option Str)) "pieces_of").ok K = true) (k : PySem.W.keepIn K (.ref (fAd K (("pieces_of" : Str), (none : Option Str)))) = true) : Def1 (sig K) K 20 f20 := by
  obtain ⟨fd, F⟩ := fun_he (st := s20) e c k
  exact ⟨_, _, s20, fd, n20, p20, F, sc20, rfl, rfl, ch20 K, F.binds fun _ _ _ _ _ _ us hl => match us, hl with | [_], _ => rfl⟩
theorem sc21 : FnScope n21 p21 (defScope s21) := ⟨rfl, rfl, rfl, by decide +kernel, rfl, by decide +kernel, by decide +kernel⟩
theorem ch21 (K : PySem.W.Frag) : chSs (sig K) n21 (defScope s21) b21 (defBody s21) = true := by kernel_rfl
theorem df21 {K : PySem.W.Frag} (e : fnObs K (("row_fault" : Str), (none : Option Str)) = some (("row_fault" : Str), ("row_fault" : Str), defArgs s21, .stmts (defBody s21), defScope s21, mainGlobals, [], .none, builtinsNs)) (c : (Fa.code (("row_fault" : Str), (none : Option Str)) "row_fault").ok K = true) (k : PySem.W.keepIn K (.ref (fAd K (("row_fault" : Str), (none : Option Str)))) = true) : Def1 (sig K) K 21 f21 := by
  obtain ⟨fd, F⟩ := fun_he (st := s21) e c k
  exact ⟨_, _, s21, fd, n21, p21, F, sc21, rfl, rfl, ch21 K, F.binds fun _ _ _ _ _ _ us hl => match us, hl with | [_, _], _ => rfl⟩
theorem sc22 : FnScope n22 p22 (defScope s22) := ⟨rfl, rfl, rfl, by decide +kernel, rfl, by decide +kernel, by decide +kernel⟩
theorem ch22 (K : PySem.W.Frag) : chSs (sig K) n22 (defScope s22) b22 (defBody s22) = true := by kernel_rfl
theorem df22 {K : PySem.W.Frag} (e : fnObs K (("meeting_fault" : Str), (none : Option Str)) = some (("meeting_fault" : Str), ("meeting_fault" : Str), defArgs s22, .stmts (defBody s22), defScope s22, mainGlobals, [], .none, builtinsNs)) (c : (Fa.code (("meeting_fault" : Str), (none : Option Str)) "meeting_fault").ok K = true) (k : PySem.W.keepIn K (.ref (fAd K (("meeting_fault" : Str), (none : Option Str)))) = true) : Def1 (sig K) K 22 f22 := by
  obtain ⟨fd, F⟩ := fun_he (st := s22) e c k
  exact ⟨_, _, s22, fd, n22, p22, F, sc22, rfl, rfl, ch22 K, F.binds fun _ _ _ _ _ _ us hl => match us, hl with | [_, _], _ => rfl⟩
theorem sc23 : FnScope n23 p23 (defScope s23) := ⟨rfl, rfl, rfl, by decide +kernel, rfl, by decide +kernel, by decide +kernel⟩
theorem ch23 (K : PySem.W.Frag) : chSs (sig K) n23 (defScope s23) b23 (defBody s23) = true := by kernel_rfl
theorem df23 {K : PySem.W.Frag} (e : fnObs K (("row_key" : Str), (none : Option Str)) = some (("row_key" : Str), ("row_key" : Str), defArgs s23, .stmts (defBody s23), defScope s23, mainGlobals, [], .none, builtinsNs)) (c : (Fa.code (("row_key" : Str), (none : Option Str)) "row_key").ok K = true) (k : PySem.W.keepIn K (.ref (fAd K (("row_key" : Str), (none : Option Str)))) = true) : Def1 (sig K) K 23 f23 := by
  obtain ⟨fd, F⟩ := fun_he (st := s23) e c k
  exact ⟨_, _, s23, fd, n23, p23, F, sc23, rfl, rfl, ch23 K, F.binds fun _ _ _ _ _ _ us hl => match us, hl with | [_], _ => rfl⟩
theorem sc24 : FnScope n24 p24 (defScope s24) := ⟨rfl, rfl, rfl, by decide +kernel, rfl, by decide +kernel, by decide +kernel⟩
theorem ch24 (K : PySem.W.Frag) : chSs (sig K) n24 (defScope s24) b24 (defBody s24) = true := by kernel_rfl
theorem df24 {K : PySem.W.Frag} (e : fnObs K (("Series" : Str), some ("__init__" : Str)) = some (("__init__" : Str), ("Series.__init__" : Str), defArgs s24, .stmts (defBody s24), defScope s24, mainGlobals, [], .none, builtinsNs)) (c : (Fa.code (("Series" : Str), some ("__init__" : Str)) "Series.__init__").ok K = true) (k : PySem.W.keepIn K (.ref (fAd K (("Series" : Str), some ("__init__" : Str)))) = true) : Def1 (sig K) K 24 f24 := by
  obtain ⟨fd, F⟩ := fun_he (st := s24) e c k
  exact ⟨_, _, s24, fd, n24, p24, F, sc24, rfl, rfl, ch24 K, F.binds fun _ _ _ _ _ _ us hl => match us, hl with | [_, _], _ => rfl⟩
theorem sc25 : FnScope n25 p25 (defScope s25) := ⟨rfl, rfl, rfl, by decide +kernel, rfl, by decide +kernel, by decide +kernel⟩
theorem ch25 (K : PySem.W.Frag) : chSs (sig K) n25 (defScope s25) b25 (defBody s25) = true := by kernel_rfl
theorem df25 {K : PySem.W.Frag} (e : fnObs K (("Series" : Str), some ("told" : Str)) = some (("told" : Str), ("Series.told" : Str), defArgs s25, .stmts (defBody s25), defScope s25, mainGlobals, [], .none, builtinsNs)) (c : (Fa.code (("Series" : Str), some ("told" : Str)) "Series.told").ok K = true) (k : PySem.W.keepIn K (.ref (fAd K (("Series" : Str), some ("told" : Str)))) = true) : Def1 (sig K) K 25 f25 := by
  obtain ⟨fd, F⟩ := fun_he (st := s25) e c k
  exact ⟨_, _, s25, fd, n25, p25, F, sc25, rfl, rfl, ch25 K, F.binds fun _ _ _ _ _ _ us hl => match us, hl with | [_], _ => rfl⟩
theorem sc26 : FnScope n26 p26 (defScope s26) := ⟨rfl, rfl, rfl, by decide +kernel, rfl, by decide +kernel, by decide +kernel⟩
theorem ch26 (K : PySem.W.Frag) : chSs (sig K) n26 (defScope s26) b26 (defBody s26) = true := by kernel_rfl
theorem df26 {K : PySem.W.Frag} (e : fnObs K (("Series" : Str), some ("names" : Str)) = some (("names" : Str), ("Series.names" : Str), defArgs s26, .stmts (defBody s26), defScope s26, mainGlobals, [], .none, builtinsNs)) (c : (Fa.code (("Series" : Str), some ("names" : Str)) "Series.names").ok K = true) (k : PySem.W.keepIn K (.ref (fAd K (("Series" : Str), some ("names" : Str)))) = true) : Def1 (sig K) K 26 f26 := by
  obtain ⟨fd, F⟩ := fun_he (st := s26) e c k
  exact ⟨_, _, s26, fd, n26, p26, F, sc26, rfl, rfl, ch26 K, F.binds fun _ _ _ _ _ _ us hl => match us, hl with | [_], _ => rfl⟩
theorem sc27 : FnScope n27 p27 (defScope s27) := ⟨rfl, rfl, rfl, by decide +kernel, rfl, by decide +kernel, by decide +kernel⟩
theorem ch27 (K : PySem.W.Frag) : chSs (sig K) n27 (defScope s27) b27 (defBody s27) = true := by kernel_rfl
theorem df27 {K : PySem.W.Frag} (e : fnObs K (("Series" : Str), some ("row" : Str)) = some (("row" : Str), ("Series.row" : Str), defArgs s27, .stmts (defBody s27), defScope s27, mainGlobals, [], .none, builtinsNs)) (c : (Fa.code (("Series" : Str), some ("row" : Str)) "Series.row").ok K = true) (k : PySem.W.keepIn K (.ref (fAd K (("Series" : Str), some ("row" : Str)))) = true) : Def1 (sig K) K 27 f27 := by
  obtain ⟨fd, F⟩ := fun_he (st := s27) e c k
  exact ⟨_, _, s27, fd, n27, p27, F, sc27, rfl, rfl, ch27 K, F.binds fun _ _ _ _ _ _ us hl => match us, hl with | [_, _], _ => rfl⟩
theorem sc28 : FnScope n28 p28 (defScope s28) := ⟨rfl, rfl, rfl, by decide +kernel, rfl, by decide +kernel, by decide +kernel⟩
theorem ch28 (K : PySem.W.Frag) : chSs (sig K) n28 (defScope s28) b28 (defBody s28) = true := by kernel_rfl
theorem df28 {K : PySem.W.Frag} (e : fnObs K (("Series" : Str), some ("pieces" : Str)) = some (("pieces" : Str), ("Series.pieces" : Str), defArgs s28, .stmts (defBody s28), defScope s28, mainGlobals, [], .none, builtinsNs)) (c : (Fa.code (("Series" : Str), some ("pieces" : Str)) "Series.pieces").ok K = true) (k : PySem.W.keepIn K (.ref (fAd K (("Series" : Str), some ("pieces" : Str)))) = true) : Def1 (sig K) K 28 f28 := by
  obtain ⟨fd, F⟩ := fun_he (st := s28) e c k
  exact ⟨_, _, s28, fd, n28, p28, F, sc28, rfl, rfl, ch28 K, F.binds fun _ _ _ _ _ _ us hl => match us, hl with | [_], _ => rfl⟩
theorem sc29 : FnScope n29 p29 (defScope s29) := ⟨rfl, rfl, rfl, by decide +kernel, rfl, by decide +kernel, by decide +kernel⟩
theorem ch29 (K : PySem.W.Frag) : chSs (sig K) n29 (defScope s29) b29 (defBody s29) = true := by kernel_rfl
theorem df29 {K : PySem.W.Frag} (e : fnObs K (("Series" : Str), some ("begun_at" : Str)) = some (("begun_at" : Str), ("Series.begun_at" : Str), defArgs s29, .stmts (defBody s29), defScope s29, mainGlobals, [], .none, builtinsNs)) (c : (Fa.code (("Series" : Str), some ("begun_at" : Str)) "Series.begun_at").ok K = true) (k : PySem.W.keepIn K (.ref (fAd K (("Series" : Str), some ("begun_at" : Str)))) = true) : Def1 (sig K) K 29 f29 := by
  obtain ⟨fd, F⟩ := fun_he (st := s29) e c k
  exact ⟨_, _, s29, fd, n29, p29, F, sc29, rfl, rfl, ch29 K, F.binds fun _ _ _ _ _ _ us hl => match us, hl with | [_, _, _], _ => rfl⟩
theorem sc30 : FnScope n30 p30 (defScope s30) := ⟨rfl, rfl, rfl, by decide +kernel, rfl, by decide +kernel, by decide +kernel⟩
theorem ch30 (K : PySem.W.Frag) : chSs (sig K) n30 (defScope s30) b30 (defBody s30) = true := by kernel_rfl
theorem df30 {K : PySem.W.Frag} (e : fnObs K (("Series" : Str), some ("whose" : Str)) = some (("whose" : Str), ("Series.whose" : Str), defArgs s30, .stmts (defBody s30), defScope s30, mainGlobals, [], .none, builtinsNs)) (c : (Fa.code (("Series" : Str), some ("whose" : Str)) "Series.whose").ok K = true) (k : PySem.W.keepIn K (.ref (fAd K (("Series" : Str), some ("whose" : Str)))) = true) : Def1 (sig K) K 30 f30 := by
  obtain ⟨fd, F⟩ := fun_he (st := s30) e c k
  exact ⟨_, _, s30, fd, n30, p30, F, sc30, rfl, rfl, ch30 K, F.binds fun _ _ _ _ _ _ us hl => match us, hl with | [_, _], _ => rfl⟩
theorem sc31 : FnScope n31 p31 (defScope s31) := ⟨rfl, rfl, rfl, by decide +kernel, rfl, by decide +kernel, by decide +kernel⟩
theorem ch31 (K : PySem.W.Frag) : chSs (sig K) n31 (defScope s31) b31 (defBody s31) = true := by kernel_rfl
theorem df31 {K : PySem.W.Frag} (e : fnObs K (("Series" : Str), some ("open_at" : Str)) = some (("open_at" : Str), ("Series.open_at" : Str), defArgs s31, .stmts (defBody s31), defScope s31, mainGlobals, [], .none, builtinsNs)) (c : (Fa.code (("Series" : Str), some ("open_at" : Str)) "Series.open_at").ok K = true) (k : PySem.W.keepIn K (.ref (fAd K (("Series" : Str), some ("open_at" : Str)))) = true) : Def1 (sig K) K 31 f31 := by
  obtain ⟨fd, F⟩ := fun_he (st := s31) e c k
  exact ⟨_, _, s31, fd, n31, p31, F, sc31, rfl, rfl, ch31 K, F.binds fun _ _ _ _ _ _ us hl => match us, hl with | [_, _], _ => rfl⟩
theorem sc32 : FnScope n32 p32 (defScope s32) := ⟨rfl, rfl, rfl, by decide +kernel, rfl, by decide +kernel, by decide +kernel⟩
theorem ch32 (K : PySem.W.Frag) : chSs (sig K) n32 (defScope s32) b32 (defBody s32) = true := by kernel_rfl
theorem df32 {K : PySem.W.Frag} (e : fnObs K (("series_row" : Str), (none : Option Str)) = some (("series_row" : Str), ("series_row" : Str), defArgs s32, .stmts (defBody s32), defScope s32, mainGlobals, [], .none, builtinsNs)) (c : (Fa.code (("series_row" : Str), (none : Option Str)) "series_row").ok K = true) (k : PySem.W.keepIn K (.ref (fAd K (("series_row" : Str), (none : Option Str)))) = true) : Def1 (sig K) K 32 f32 := by
  obtain ⟨fd, F⟩ := fun_he (st := s32) e c k
  exact ⟨_, _, s32, fd, n32, p32, F, sc32, rfl, rfl, ch32 K, F.binds fun _ _ _ _ _ _ us hl => match us, hl with | [_], _ => rfl⟩
theorem sc33 : FnScope n33 p33 (defScope s33) := ⟨rfl, rfl, rfl, by decide +kernel, rfl, by decide +kernel, by decide +kernel⟩
theorem ch33 (K : PySem.W.Frag) : chSs (sig K) n33 (defScope s33) b33 (defBody s33) = true := by kernel_rfl
theorem df33 {K : PySem.W.Frag} (e : fnObs K (("read_series" : Str), (none : Option Str)) = some (("read_series" : Str), ("read_series" : Str), defArgs s33, .stmts (defBody s33), defScope s33, mainGlobals, [], .none, builtinsNs)) (c : (Fa.code (("read_series" : Str), (none : Option Str)) "read_series").ok K = true) (k : PySem.W.keepIn K (.ref (fAd K (("read_series" : Str), (none : Option Str)))) = true) : Def1 (sig K) K 33 f33 := by
  obtain ⟨fd, F⟩ := fun_he (st := s33) e c k
  exact ⟨_, _, s33, fd, n33, p33, F, sc33, rfl, rfl, ch33 K, F.binds fun _ _ _ _ _ _ us hl => match us, hl with | [_], _ => rfl⟩
theorem sc34 : FnScope n34 p34 (defScope s34) := ⟨rfl, rfl, rfl, by decide +kernel, rfl, by decide +kernel, by decide +kernel⟩
theorem ch34 (K : PySem.W.Frag) : chSs (sig K) n34 (defScope s34) b34 (defBody s34) = true := by kernel_rfl
theorem df34 {K : PySem.W.Frag} (e : fnObs K (("show_series" : Str), (none : Option Str)) = some (("show_series" : Str), ("show_series" : Str), defArgs s34, .stmts (defBody s34), defScope s34, mainGlobals, [], .none, builtinsNs)) (c : (Fa.code (("show_series" : Str), (none : Option Str)) "show_series").ok K = true) (k : PySem.W.keepIn K (.ref (fAd K (("show_series" : Str), (none : Option Str)))) = true) : Def1 (sig K) K 34 f34 := by
  obtain ⟨fd, F⟩ := fun_he (st := s34) e c k
  exact ⟨_, _, s34, fd, n34, p34, F, sc34, rfl, rfl, ch34 K, F.binds fun _ _ _ _ _ _ us hl => match us, hl with | [_], _ => rfl⟩
theorem sc35 : FnScope n35 p35 (defScope s35) := ⟨rfl, rfl, rfl, by decide +kernel, rfl, by decide +kernel, by decide +kernel⟩
theorem ch35 (K : PySem.W.Frag) : chSs (sig K) n35 (defScope s35) b35 (defBody s35) = true := by kernel_rfl
theorem df35 {K : PySem.W.Frag} (e : fnObs K (("_law_cell" : Str), (none : Option Str)) = some (("_law_cell" : Str), ("_law_cell" : Str), defArgs s35, .stmts (defBody s35), defScope s35, mainGlobals, [], .none, builtinsNs)) (c : (Fa.code (("_law_cell" : Str), (none : Option Str)) "_law_cell").ok K = true) (k : PySem.W.keepIn K (.ref (fAd K (("_law_cell" : Str), (none : Option Str)))) = true) : Def1 (sig K) K 35 f35 := by
  obtain ⟨fd, F⟩ := fun_he (st := s35) e c k
  exact ⟨_, _, s35, fd, n35, p35, F, sc35, rfl, rfl, ch35 K, F.binds fun _ _ _ _ _ _ us hl => match us, hl with | [_, _], _ => rfl⟩
theorem sc36 : FnScope n36 p36 (defScope s36) := ⟨rfl, rfl, rfl, by decide +kernel, rfl, by decide +kernel, by decide +kernel⟩
theorem ch36 (K : PySem.W.Frag) : chSs (sig K) n36 (defScope s36) b36 (defBody s36) = true := by kernel_rfl
theorem df36 {K : PySem.W.Frag} (e : fnObs K (("_law_box" : Str), (none : Option Str)) = some (("_law_box" : Str), ("_law_box" : Str), defArgs s36, .stmts (defBody s36), defScope s36, mainGlobals, [], .none, builtinsNs)) (c : (Fa.code (("_law_box" : Str), (none : Option Str)) "_law_box").ok K = true) (k : PySem.W.keepIn K (.ref (fAd K (("_law_box" : Str), (none : Option Str)))) = true) : Def1 (sig K) K 36 f36 := by
  obtain ⟨fd, F⟩ := fun_he (st := s36) e c k
  exact ⟨_, _, s36, fd, n36, p36, F, sc36, rfl, rfl, ch36 K, F.binds fun _ _ _ _ _ _ us hl => match us, hl with | [_], _ => rfl⟩
theorem sc37 : FnScope n37 p37 (defScope s37) := ⟨rfl, rfl, rfl, by decide +kernel, rfl, by decide +kernel, by decide +kernel⟩
theorem ch37 (K : PySem.W.Frag) : chSs (sig K) n37 (defScope s37) b37 (defBody s37) = true := by kernel_rfl
theorem df37 {K : PySem.W.Frag} (e : fnObs K (("_law_take" : Str), (none : Option Str)) = some (("_law_take" : Str), ("_law_take" : Str), defArgs s37, .stmts (defBody s37), defScope s37, mainGlobals, [], .none, builtinsNs)) (c : (Fa.code (("_law_take" : Str), (none : Option Str)) "_law_take").ok K = true) (k : PySem.W.keepIn K (.ref (fAd K (("_law_take" : Str), (none : Option Str)))) = true) : Def1 (sig K) K 37 f37 := by
  obtain ⟨fd, F⟩ := fun_he (st := s37) e c k
  exact ⟨_, _, s37, fd, n37, p37, F, sc37, rfl, rfl, ch37 K, F.binds fun _ _ _ _ _ _ us hl => match us, hl with | [_, _], _ => rfl⟩
theorem sc38 : FnScope n38 p38 (defScope s38) := ⟨rfl, rfl, rfl, by decide +kernel, rfl, by decide +kernel, by decide +kernel⟩
theorem ch38 (K : PySem.W.Frag) : chSs (sig K) n38 (defScope s38) b38 (defBody s38) = true := by kernel_rfl
theorem df38 {K : PySem.W.Frag} (e : fnObs K (("_law_word" : Str), (none : Option Str)) = some (("_law_word" : Str), ("_law_word" : Str), defArgs s38, .stmts (defBody s38), defScope s38, mainGlobals, [], .none, builtinsNs)) (c : (Fa.code (("_law_word" : Str), (none : Option Str)) "_law_word").ok K = true) (k : PySem.W.keepIn K (.ref (fAd K (("_law_word" : Str), (none : Option Str)))) = true) : Def1 (sig K) K 38 f38 := by
  obtain ⟨fd, F⟩ := fun_he (st := s38) e c k
  exact ⟨_, _, s38, fd, n38, p38, F, sc38, rfl, rfl, ch38 K, F.binds fun _ _ _ _ _ _ us hl => match us, hl with | [_], _ => rfl⟩
theorem sc39 : FnScope n39 p39 (defScope s39) := ⟨rfl, rfl, rfl, by decide +kernel, rfl, by decide +kernel, by decide +kernel⟩
theorem ch39 (K : PySem.W.Frag) : chSs (sig K) n39 (defScope s39) b39 (defBody s39) = true := by kernel_rfl
theorem df39 {K : PySem.W.Frag} (e : fnObs K (("_law_series_row" : Str), (none : Option Str)) = some (("_law_series_row" : Str), ("_law_series_row" : Str), defArgs s39, .stmts (defBody s39), defScope s39, mainGlobals, [], .none, builtinsNs)) (c : (Fa.code (("_law_series_row" : Str), (none : Option Str)) "_law_series_row").ok K = true) (k : PySem.W.keepIn K (.ref (fAd K (("_law_series_row" : Str), (none : Option Str)))) = true) : Def1 (sig K) K 39 f39 := by
  obtain ⟨fd, F⟩ := fun_he (st := s39) e c k
  exact ⟨_, _, s39, fd, n39, p39, F, sc39, rfl, rfl, ch39 K, F.binds fun _ _ _ _ _ _ us hl => match us, hl with | [_, _], _ => rfl⟩
theorem sc40 : FnScope n40 p40 (defScope s40) := ⟨rfl, rfl, rfl, by decide +kernel, rfl, by decide +kernel, by decide +kernel⟩
theorem ch40 (K : PySem.W.Frag) : chSs (sig K) n40 (defScope s40) b40 (defBody s40) = true := by kernel_rfl
theorem df40 {K : PySem.W.Frag} (e : fnObs K (("_law_series_pieces" : Str), (none : Option Str)) = some (("_law_series_pieces" : Str), ("_law_series_pieces" : Str), defArgs s40, .stmts (defBody s40), defScope s40, mainGlobals, [], .none, builtinsNs)) (c : (Fa.code (("_law_series_pieces" : Str), (none : Option Str)) "_law_series_pieces").ok K = true) (k : PySem.W.keepIn K (.ref (fAd K (("_law_series_pieces" : Str), (none : Option Str)))) = true) : Def1 (sig K) K 40 f40 := by
  obtain ⟨fd, F⟩ := fun_he (st := s40) e c k
  exact ⟨_, _, s40, fd, n40, p40, F, sc40, rfl, rfl, ch40 K, F.binds fun _ _ _ _ _ _ us hl => match us, hl with | [_], _ => rfl⟩
theorem sc41 : FnScope n41 p41 (defScope s41) := ⟨rfl, rfl, rfl, by decide +kernel, rfl, by decide +kernel, by decide +kernel⟩
theorem ch41 (K : PySem.W.Frag) : chSs (sig K) n41 (defScope s41) b41 (defBody s41) = true := by kernel_rfl
theorem df41 {K : PySem.W.Frag} (e : fnObs K (("_law_series" : Str), (none : Option Str)) = some (("_law_series" : Str), ("_law_series" : Str), defArgs s41, .stmts (defBody s41), defScope s41, mainGlobals, [], .none, builtinsNs)) (c : (Fa.code (("_law_series" : Str), (none : Option Str)) "_law_series").ok K = true) (k : PySem.W.keepIn K (.ref (fAd K (("_law_series" : Str), (none : Option Str)))) = true) : Def1 (sig K) K 41 f41 := by
  obtain ⟨fd, F⟩ := fun_he (st := s41) e c k
  exact ⟨_, _, s41, fd, n41, p41, F, sc41, rfl, rfl, ch41 K, F.binds fun _ _ _ _ _ _ us hl => match us, hl with | [_, _], _ => rfl⟩
theorem sc42 : FnScope n42 p42 (defScope s42) := ⟨rfl, rfl, rfl, by decide +kernel, rfl, by decide +kernel, by decide +kernel⟩
theorem ch42 (K : PySem.W.Frag) : chSs (sig K) n42 (defScope s42) b42 (defBody s42) = true := by kernel_rfl
theorem df42 {K : PySem.W.Frag} (e : fnObs K (("_law_thing" : Str), (none : Option Str)) = some (("_law_thing" : Str), ("_law_thing" : Str), defArgs s42, .stmts (defBody s42), defScope s42, mainGlobals, [], .none, builtinsNs)) (c : (Fa.code (("_law_thing" : Str), (none : Option Str)) "_law_thing").ok K = true) (k : PySem.W.keepIn K (.ref (fAd K (("_law_thing" : Str), (none : Option Str)))) = true) : Def1 (sig K) K 42 f42 := by
  obtain ⟨fd, F⟩ := fun_he (st := s42) e c k
  exact ⟨_, _, s42, fd, n42, p42, F, sc42, rfl, rfl, ch42 K, F.binds fun _ _ _ _ _ _ us hl => match us, hl with | [_], _ => rfl⟩
theorem sc43 : FnScope n43 p43 (defScope s43) := ⟨rfl, rfl, rfl, by decide +kernel, rfl, by decide +kernel, by decide +kernel⟩
theorem ch43 (K : PySem.W.Frag) : chSs (sig K) n43 (defScope s43) b43 (defBody s43) = true := by kernel_rfl
theorem df43 {K : PySem.W.Frag} (e : fnObs K (("_law_whole" : Str), (none : Option Str)) = some (("_law_whole" : Str), ("_law_whole" : Str), defArgs s43, .stmts (defBody s43), defScope s43, mainGlobals, [], .none, builtinsNs)) (c : (Fa.code (("_law_whole" : Str), (none : Option Str)) "_law_whole").ok K = true) (k : PySem.W.keepIn K (.ref (fAd K (("_law_whole" : Str), (none : Option Str)))) = true) : Def1 (sig K) K 43 f43 := by
  obtain ⟨fd, F⟩ := fun_he (st := s43) e c k
  exact ⟨_, _, s43, fd, n43, p43, F, sc43, rfl, rfl, ch43 K, F.binds fun _ _ _ _ _ _ us hl => match us, hl with | [_, _, _], _ => rfl⟩
theorem sc44 : FnScope n44 p44 (defScope s44) := ⟨rfl, rfl, rfl, by decide +kernel, rfl, by decide +kernel, by decide +kernel⟩
theorem ch44 (K : PySem.W.Frag) : chSs (sig K) n44 (defScope s44) b44 (defBody s44) = true := by kernel_rfl
theorem df44 {K : PySem.W.Frag} (e : fnObs K (("_law_row_fault" : Str), (none : Option Str)) = some (("_law_row_fault" : Str), ("_law_row_fault" : Str), defArgs s44, .stmts (defBody s44), defScope s44, mainGlobals, [], .none, builtinsNs)) (c : (Fa.code (("_law_row_fault" : Str), (none : Option Str)) "_law_row_fault").ok K = true) (k : PySem.W.keepIn K (.ref (fAd K (("_law_row_fault" : Str), (none : Option Str)))) = true) : Def1 (sig K) K 44 f44 := by
  obtain ⟨fd, F⟩ := fun_he (st := s44) e c k
  exact ⟨_, _, s44, fd, n44, p44, F, sc44, rfl, rfl, ch44 K, F.binds fun _ _ _ _ _ _ us hl => match us, hl with | [_, _], _ => rfl⟩
theorem sc45 : FnScope n45 p45 (defScope s45) := ⟨rfl, rfl, rfl, by decide +kernel, rfl, by decide +kernel, by decide +kernel⟩
theorem ch45 (K : PySem.W.Frag) : chSs (sig K) n45 (defScope s45) b45 (defBody s45) = true := by kernel_rfl
theorem df45 {K : PySem.W.Frag} (e : fnObs K (("_law_fault" : Str), (none : Option Str)) = some (("_law_fault" : Str), ("_law_fault" : Str), defArgs s45, .stmts (defBody s45), defScope s45, mainGlobals, [], .none, builtinsNs)) (c : (Fa.code (("_law_fault" : Str), (none : Option Str)) "_law_fault").ok K = true) (k : PySem.W.keepIn K (.ref (fAd K (("_law_fault" : Str), (none : Option Str)))) = true) : Def1 (sig K) K 45 f45 := by
  obtain ⟨fd, F⟩ := fun_he (st := s45) e c k
  exact ⟨_, _, s45, fd, n45, p45, F, sc45, rfl, rfl, ch45 K, F.binds fun _ _ _ _ _ _ us hl => match us, hl with | [_], _ => rfl⟩
theorem sc46 : FnScope n46 p46 (defScope s46) := ⟨rfl, rfl, rfl, by decide +kernel, rfl, by decide +kernel, by decide +kernel⟩
theorem ch46 (K : PySem.W.Frag) : chSs (sig K) n46 (defScope s46) b46 (defBody s46) = true := by kernel_rfl
theorem df46 {K : PySem.W.Frag} (e : fnObs K (("_law_number" : Str), (none : Option Str)) = some (("_law_number" : Str), ("_law_number" : Str), defArgs s46, .stmts (defBody s46), defScope s46, mainGlobals, [], .none, builtinsNs)) (c : (Fa.code (("_law_number" : Str), (none : Option Str)) "_law_number").ok K = true) (k : PySem.W.keepIn K (.ref (fAd K (("_law_number" : Str), (none : Option Str)))) = true) : Def1 (sig K) K 46 f46 := by
  obtain ⟨fd, F⟩ := fun_he (st := s46) e c k
  exact ⟨_, _, s46, fd, n46, p46, F, sc46, rfl, rfl, ch46 K, F.binds fun _ _ _ _ _ _ us hl => match us, hl with | [_], _ => rfl⟩
theorem sc47 : FnScope n47 p47 (defScope s47) := ⟨rfl, rfl, rfl, by decide +kernel, rfl, by decide +kernel, by decide +kernel⟩
theorem ch47 (K : PySem.W.Frag) : chSs (sig K) n47 (defScope s47) b47 (defBody s47) = true := by kernel_rfl
theorem df47 {K : PySem.W.Frag} (e : fnObs K (("_law_row" : Str), (none : Option Str)) = some (("_law_row" : Str), ("_law_row" : Str), defArgs s47, .stmts (defBody s47), defScope s47, mainGlobals, [], .none, builtinsNs)) (c : (Fa.code (("_law_row" : Str), (none : Option Str)) "_law_row").ok K = true) (k : PySem.W.keepIn K (.ref (fAd K (("_law_row" : Str), (none : Option Str)))) = true) : Def1 (sig K) K 47 f47 := by
  obtain ⟨fd, F⟩ := fun_he (st := s47) e c k
  exact ⟨_, _, s47, fd, n47, p47, F, sc47, rfl, rfl, ch47 K, F.binds fun _ _ _ _ _ _ us hl => match us, hl with | [_], _ => rfl⟩
theorem sc48 : FnScope n48 p48 (defScope s48) := ⟨rfl, rfl, rfl, by decide +kernel, rfl, by decide +kernel, by decide +kernel⟩
theorem ch48 (K : PySem.W.Frag) : chSs (sig K) n48 (defScope s48) b48 (defBody s48) = true := by kernel_rfl
theorem df48 {K : PySem.W.Frag} (e : fnObs K (("_law_due" : Str), (none : Option Str)) = some (("_law_due" : Str), ("_law_due" : Str), defArgs s48, .stmts (defBody s48), defScope s48, mainGlobals, [], .none, builtinsNs)) (c : (Fa.code (("_law_due" : Str), (none : Option Str)) "_law_due").ok K = true) (k : PySem.W.keepIn K (.ref (fAd K (("_law_due" : Str), (none : Option Str)))) = true) : Def1 (sig K) K 48 f48 := by
  obtain ⟨fd, F⟩ := fun_he (st := s48) e c k
  exact ⟨_, _, s48, fd, n48, p48, F, sc48, rfl, rfl, ch48 K, F.binds fun _ _ _ _ _ _ us hl => match us, hl with | [_], _ => rfl⟩
theorem sc49 : FnScope n49 p49 (defScope s49) := ⟨rfl, rfl, rfl, by decide +kernel, rfl, by decide +kernel, by decide +kernel⟩
theorem ch49 (K : PySem.W.Frag) : chSs (sig K) n49 (defScope s49) b49 (defBody s49) = true := by kernel_rfl
theorem df49 {K : PySem.W.Frag} (e : fnObs K (("_law_answer" : Str), (none : Option Str)) = some (("_law_answer" : Str), ("_law_answer" : Str), defArgs s49, .stmts (defBody s49), defScope s49, mainGlobals, [], .none, builtinsNs)) (c : (Fa.code (("_law_answer" : Str), (none : Option Str)) "_law_answer").ok K = true) (k : PySem.W.keepIn K (.ref (fAd K (("_law_answer" : Str), (none : Option Str)))) = true) : Def1 (sig K) K 49 f49 := by
  obtain ⟨fd, F⟩ := fun_he (st := s49) e c k
  exact ⟨_, _, s49, fd, n49, p49, F, sc49, rfl, rfl, ch49 K, F.binds fun _ _ _ _ _ _ us hl => match us, hl with | [_], _ => rfl⟩
theorem sc50 : FnScope n50 p50 (defScope s50) := ⟨rfl, rfl, rfl, by decide +kernel, rfl, by decide +kernel, by decide +kernel⟩
theorem ch50 (K : PySem.W.Frag) : chSs (sig K) n50 (defScope s50) b50 (defBody s50) = true := by kernel_rfl
theorem df50 {K : PySem.W.Frag} (e : fnObs K (("_law_spoilt" : Str), (none : Option Str)) = some (("_law_spoilt" : Str), ("_law_spoilt" : Str), defArgs s50, .stmts (defBody s50), defScope s50, mainGlobals, [], .none, builtinsNs)) (c : (Fa.code (("_law_spoilt" : Str), (none : Option Str)) "_law_spoilt").ok K = true) (k : PySem.W.keepIn K (.ref (fAd K (("_law_spoilt" : Str), (none : Option Str)))) = true) : Def1 (sig K) K 50 f50 := by
  obtain ⟨fd, F⟩ := fun_he (st := s50) e c k
  exact ⟨_, _, s50, fd, n50, p50, F, sc50, rfl, rfl, ch50 K, F.binds fun _ _ _ _ _ _ us hl => match us, hl with | [_, _], _ => rfl⟩
theorem sc51 : FnScope n51 p51 (defScope s51) := ⟨rfl, rfl, rfl, by decide +kernel, rfl, by decide +kernel, by decide +kernel⟩
theorem ch51 (K : PySem.W.Frag) : chSs (sig K) n51 (defScope s51) b51 (defBody s51) = true := by kernel_rfl
theorem df51 {K : PySem.W.Frag} (e : fnObs K (("law" : Str), (none : Option Str)) = some (("law" : Str), ("law" : Str), defArgs s51, .stmts (defBody s51), defScope s51, mainGlobals, [], .none, builtinsNs)) (c : (Fa.code (("law" : Str), (none : Option Str)) "law").ok K = true) (k : PySem.W.keepIn K (.ref (fAd K (("law" : Str), (none : Option Str)))) = true) : Def1 (sig K) K 51 f51 := by
  obtain ⟨fd, F⟩ := fun_he (st := s51) e c k
  exact ⟨_, _, s51, fd, n51, p51, F, sc51, rfl, rfl, ch51 K, F.binds fun _ _ _ _ _ _ us hl => match us, hl with | [_], _ => rfl⟩
theorem ni1 : Ini t1 "SlackError" ["at", "why"] q1 := ⟨"self", "at", "why", _, _, _, _, _, _, _, _, _, _, _, _, _, _, _, _, "at", "why", .inr ⟨rfl, rfl, by decide, rfl, ⟨rfl, rfl, rfl, by decide +kernel, rfl, by decide +kernel, by decide +kernel⟩, rfl, rfl, rfl, rfl, rfl, rfl, rfl, rfl⟩⟩
theorem ni2 : Ini t2 "SlackError" ["at", "why"] q2 := ⟨"self", "at", "why", _, _, _, _, _, _, _, _, _, _, _, _, _, _, _, _, "at", "why", .inr ⟨rfl, rfl, by decide, rfl, ⟨rfl, rfl, rfl, by decide +kernel, rfl, by decide +kernel, by decide +kernel⟩, rfl, rfl, rfl, rfl, rfl, rfl, rfl, rfl⟩⟩
theorem ni3 : Ini t3 "SlackError" ["found"] q3 := ⟨"self", "found", "", _, _, _, _, _, _, _, _, _, _, _, _, ⟨0, 0, 0, 0⟩, ⟨0, 0, 0, 0⟩, ⟨0, 0, 0, 0⟩, ⟨0, 0, 0, 0⟩, "found", "", .inl ⟨rfl, rfl, rfl, ⟨rfl, rfl, rfl, by decide +kernel, rfl, by decide +kernel, by decide +kernel⟩, rfl, rfl, rfl, rfl, rfl, rfl⟩⟩
theorem ni4 : Ini t4 "SlackError" ["at", "why"] q4 := ⟨"self", "at", "why", _, _, _, _, _, _, _, _, _, _, _, _, _, _, _, _, "at", "why", .inr ⟨rfl, rfl, by decide, rfl, ⟨rfl, rfl, rfl, by decide +kernel, rfl, by decide +kernel, by decide +kernel⟩, rfl, rfl, rfl, rfl, rfl, rfl, rfl, rfl⟩⟩
def obL : List ((Str × Option Str) × Str × Str × Stmt) := [((("_wall" : Str), (none : Option Str)), ("_wall" : Str), ("_wall" : Str), s0),
  ((("is_whole" : Str), (none : Option Str)), ("is_whole" : Str), ("is_whole" : Str), s1),
  ((("is_within" : Str), (none : Option Str)), ("is_within" : Str), ("is_within" : Str), s2),
  ((("is_name" : Str), (none : Option Str)), ("is_name" : Str), ("is_name" : Str), s3),
  ((("number_of" : Str), (none : Option Str)), ("number_of" : Str), ("number_of" : Str), s4),
  ((("window_fault" : Str), (none : Option Str)), ("window_fault" : Str), ("window_fault" : Str), s5),
  ((("row_fault_pieces" : Str), (none : Option Str)), ("row_fault" : Str), ("row_fault" : Str), s6),
  ((("five_of" : Str), (none : Option Str)), ("five_of" : Str), ("five_of" : Str), s7),
  ((("five_rows" : Str), (none : Option Str)), ("five_rows" : Str), ("five_rows" : Str), s8),
  ((("Pieces" : Str), some ("__init__" : Str)), ("__init__" : Str), ("Pieces.__init__" : Str), s9),
  ((("Pieces" : Str), some ("told" : Str)), ("told" : Str), ("Pieces.told" : Str), s10),
  ((("Pieces" : Str), some ("names" : Str)), ("names" : Str), ("Pieces.names" : Str), s11),
  ((("Pieces" : Str), some ("has" : Str)), ("has" : Str), ("Pieces.has" : Str), s12),
  ((("Pieces" : Str), some ("row" : Str)), ("row" : Str), ("Pieces.row" : Str), s13),
  ((("Pieces" : Str), some ("with_row" : Str)), ("with_row" : Str), ("Pieces.with_row" : Str), s14),
  ((("Pieces" : Str), some ("without" : Str)), ("without" : Str), ("Pieces.without" : Str), s15),
  ((("Pieces" : Str), some ("put_at" : Str)), ("put_at" : Str), ("Pieces.put_at" : Str), s16),
  ((("Pieces" : Str), some ("with_last" : Str)), ("with_last" : Str), ("Pieces.with_last" : Str), s17),
  ((("Pieces" : Str), some ("with_left" : Str)), ("with_left" : Str), ("Pieces.with_left" : Str), s18),
  ((("Pieces" : Str), some ("since" : Str)), ("since" : Str), ("Pieces.since" : Str), s19),
  ((("pieces_of" : Str), (none : Option Str)), ("pieces_of" : Str), ("pieces_of" : Str), s20),
  ((("row_fault" : Str), (none : Option Str)), ("row_fault" : Str), ("row_fault" : Str), s21),
  ((("meeting_fault" : Str), (none : Option Str)), ("meeting_fault" : Str), ("meeting_fault" : Str), s22),
  ((("row_key" : Str), (none : Option Str)), ("row_key" : Str), ("row_key" : Str), s23),
  ((("Series" : Str), some ("__init__" : Str)), ("__init__" : Str), ("Series.__init__" : Str), s24),
  ((("Series" : Str), some ("told" : Str)), ("told" : Str), ("Series.told" : Str), s25),
  ((("Series" : Str), some ("names" : Str)), ("names" : Str), ("Series.names" : Str), s26),
  ((("Series" : Str), some ("row" : Str)), ("row" : Str), ("Series.row" : Str), s27),
  ((("Series" : Str), some ("pieces" : Str)), ("pieces" : Str), ("Series.pieces" : Str), s28),
  ((("Series" : Str), some ("begun_at" : Str)), ("begun_at" : Str), ("Series.begun_at" : Str), s29),
  ((("Series" : Str), some ("whose" : Str)), ("whose" : Str), ("Series.whose" : Str), s30),
  ((("Series" : Str), some ("open_at" : Str)), ("open_at" : Str), ("Series.open_at" : Str), s31),
  ((("series_row" : Str), (none : Option Str)), ("series_row" : Str), ("series_row" : Str), s32),
  ((("read_series" : Str), (none : Option Str)), ("read_series" : Str), ("read_series" : Str), s33),
  ((("show_series" : Str), (none : Option Str)), ("show_series" : Str), ("show_series" : Str), s34),
  ((("_law_cell" : Str), (none : Option Str)), ("_law_cell" : Str), ("_law_cell" : Str), s35),
  ((("_law_box" : Str), (none : Option Str)), ("_law_box" : Str), ("_law_box" : Str), s36),
  ((("_law_take" : Str), (none : Option Str)), ("_law_take" : Str), ("_law_take" : Str), s37),
  ((("_law_word" : Str), (none : Option Str)), ("_law_word" : Str), ("_law_word" : Str), s38),
  ((("_law_series_row" : Str), (none : Option Str)), ("_law_series_row" : Str), ("_law_series_row" : Str), s39),
  ((("_law_series_pieces" : Str), (none : Option Str)), ("_law_series_pieces" : Str), ("_law_series_pieces" : Str), s40),
  ((("_law_series" : Str), (none : Option Str)), ("_law_series" : Str), ("_law_series" : Str), s41),
  ((("_law_thing" : Str), (none : Option Str)), ("_law_thing" : Str), ("_law_thing" : Str), s42),
  ((("_law_whole" : Str), (none : Option Str)), ("_law_whole" : Str), ("_law_whole" : Str), s43),
  ((("_law_row_fault" : Str), (none : Option Str)), ("_law_row_fault" : Str), ("_law_row_fault" : Str), s44),
  ((("_law_fault" : Str), (none : Option Str)), ("_law_fault" : Str), ("_law_fault" : Str), s45),
  ((("_law_number" : Str), (none : Option Str)), ("_law_number" : Str), ("_law_number" : Str), s46),
  ((("_law_row" : Str), (none : Option Str)), ("_law_row" : Str), ("_law_row" : Str), s47),
  ((("_law_due" : Str), (none : Option Str)), ("_law_due" : Str), ("_law_due" : Str), s48),
  ((("_law_answer" : Str), (none : Option Str)), ("_law_answer" : Str), ("_law_answer" : Str), s49),
  ((("_law_spoilt" : Str), (none : Option Str)), ("_law_spoilt" : Str), ("_law_spoilt" : Str), s50),
  ((("law" : Str), (none : Option Str)), ("law" : Str), ("law" : Str), s51),
  ((("BadPieces" : Str), some ("__init__" : Str)), ("__init__" : Str), ("BadPieces.__init__" : Str), t1),
  ((("BadText" : Str), some ("__init__" : Str)), ("__init__" : Str), ("BadText.__init__" : Str), t2),
  ((("NoPiece" : Str), some ("__init__" : Str)), ("__init__" : Str), ("NoPiece.__init__" : Str), t3),
  ((("BadSeries" : Str), some ("__init__" : Str)), ("__init__" : Str), ("BadSeries.__init__" : Str), t4)]
def obB (K : PySem.W.Frag) : List FnV := obL.map fun p => fnObs K p.1
def obV : List FnV := obL.map fun p => some (p.2.1, p.2.2.1, defArgs p.2.2.2, .stmts (defBody p.2.2.2), defScope p.2.2.2, mainGlobals, [], .none, builtinsNs)
def allB (K : PySem.W.Frag) : Bool := basB (sig K) tabs (xkL K) && ((obL.all fun p => (Fa.code p.1 p.2.2.1).ok K && PySem.W.keepIn K (.ref (fAd K p.1))) && (ownB K (ga K "SlackError")))
theorem ob_at {K : PySem.W.Frag} (e : obB K = obV) (b : (obL.all fun p => (Fa.code p.1 p.2.2.1).ok K && PySem.W.keepIn K (.ref (fAd K p.1))) = true) (i : Nat) {p : Str × Option Str} {x q : Str} {s : Stmt} (h : obL[i]? = some (p, x, q, s)) :
    fnObs K p = some (x, q, defArgs s, .stmts (defBody s), defScope s, mainGlobals, [], .none, builtinsNs) ∧ (Fa.code p q).ok K = true ∧ PySem.W.keepIn K (.ref (fAd K p)) = true := by
  have e1 : (obB K)[i]? = obV[i]? := by rw [e]
  unfold obB obV at e1
  rw [List.getElem?_map, List.getElem?_map, h] at e1
  have z := List.all_eq_true.mp b _ (List.mem_of_getElem? h)
  obtain ⟨z1, z2⟩ := ba2 z
  exact ⟨Option.some.inj e1, z1, z2⟩
theorem dfs {K : PySem.W.Frag} (e : obB K = obV) (b : (obL.all fun p => (Fa.code p.1 p.2.2.1).ok K && PySem.W.keepIn K (.ref (fAd K p.1))) = true) : ∀ k d, fnT k = some d → Def1 (sig K) K k d := fun k d h => by
  have hk := fnT_lt h
  match k, h with
  | 0, h => cases h; obtain ⟨h1, h2, h3⟩ := ob_at e b 0 rfl; exact df0 h1 h2 h3
  | 1, h => cases h; obtain ⟨h1, h2, h3⟩ := ob_at e b 1 rfl; exact df1 h1 h2 h3
  | 2, h => cases h; obtain ⟨h1, h2, h3⟩ := ob_at e b 2 rfl; exact df2 h1 h2 h3
  | 3, h => cases h; obtain ⟨h1, h2, h3⟩ := ob_at e b 3 rfl; exact df3 h1 h2 h3
  | 4, h => cases h; obtain ⟨h1, h2, h3⟩ := ob_at e b 4 rfl; exact df4 h1 h2 h3
  | 5, h => cases h; obtain ⟨h1, h2, h3⟩ := ob_at e b 5 rfl; exact df5 h1 h2 h3
  | 6, h => cases h; obtain ⟨h1, h2, h3⟩ := ob_at e b 6 rfl; exact df6 h1 h2 h3
  | 7, h => cases h; obtain ⟨h1, h2, h3⟩ := ob_at e b 7 rfl; exact df7 h1 h2 h3
  | 8, h => cases h; obtain ⟨h1, h2, h3⟩ := ob_at e b 8 rfl; exact df8 h1 h2 h3
  | 9, h => cases h; obtain ⟨h1, h2, h3⟩ := ob_at e b 9 rfl; exact df9 h1 h2 h3
  | 10, h => cases h; obtain ⟨h1, h2, h3⟩ := ob_at e b 10 rfl; exact df10 h1 h2 h3
  | 11, h => cases h; obtain ⟨h1, h2, h3⟩ := ob_at e b 11 rfl; exact df11 h1 h2 h3
  | 12, h => cases h; obtain ⟨h1, h2, h3⟩ := ob_at e b 12 rfl; exact df12 h1 h2 h3
  | 13, h => cases h; obtain ⟨h1, h2, h3⟩ := ob_at e b 13 rfl; exact df13 h1 h2 h3
  | 14, h => cases h; obtain ⟨h1, h2, h3⟩ := ob_at e b 14 rfl; exact df14 h1 h2 h3
  | 15, h => cases h; obtain ⟨h1, h2, h3⟩ := ob_at e b 15 rfl; exact df15 h1 h2 h3
  | 16, h => cases h; obtain ⟨h1, h2, h3⟩ := ob_at e b 16 rfl; exact df16 h1 h2 h3
  | 17, h => cases h; obtain ⟨h1, h2, h3⟩ := ob_at e b 17 rfl; exact df17 h1 h2 h3
  | 18, h => cases h; obtain ⟨h1, h2, h3⟩ := ob_at e b 18 rfl; exact df18 h1 h2 h3
  | 19, h => cases h; obtain ⟨h1, h2, h3⟩ := ob_at e b 19 rfl; exact df19 h1 h2 h3
  | 20, h => cases h; obtain ⟨h1, h2, h3⟩ := ob_at e b 20 rfl; exact df20 h1 h2 h3
  | 21, h => cases h; obtain ⟨h1, h2, h3⟩ := ob_at e b 21 rfl; exact df21 h1 h2 h3
  | 22, h => cases h; obtain ⟨h1, h2, h3⟩ := ob_at e b 22 rfl; exact df22 h1 h2 h3
  | 23, h => cases h; obtain ⟨h1, h2, h3⟩ := ob_at e b 23 rfl; exact df23 h1 h2 h3
  | 24, h => cases h; obtain ⟨h1, h2, h3⟩ := ob_at e b 24 rfl; exact df24 h1 h2 h3
  | 25, h => cases h; obtain ⟨h1, h2, h3⟩ := ob_at e b 25 rfl; exact df25 h1 h2 h3
  | 26, h => cases h; obtain ⟨h1, h2, h3⟩ := ob_at e b 26 rfl; exact df26 h1 h2 h3
  | 27, h => cases h; obtain ⟨h1, h2, h3⟩ := ob_at e b 27 rfl; exact df27 h1 h2 h3
  | 28, h => cases h; obtain ⟨h1, h2, h3⟩ := ob_at e b 28 rfl; exact df28 h1 h2 h3
  | 29, h => cases h; obtain ⟨h1, h2, h3⟩ := ob_at e b 29 rfl; exact df29 h1 h2 h3
  | 30, h => cases h; obtain ⟨h1, h2, h3⟩ := ob_at e b 30 rfl; exact df30 h1 h2 h3
  | 31, h => cases h; obtain ⟨h1, h2, h3⟩ := ob_at e b 31 rfl; exact df31 h1 h2 h3
  | 32, h => cases h; obtain ⟨h1, h2, h3⟩ := ob_at e b 32 rfl; exact df32 h1 h2 h3
  | 33, h => cases h; obtain ⟨h1, h2, h3⟩ := ob_at e b 33 rfl; exact df33 h1 h2 h3
  | 34, h => cases h; obtain ⟨h1, h2, h3⟩ := ob_at e b 34 rfl; exact df34 h1 h2 h3
  | 35, h => cases h; obtain ⟨h1, h2, h3⟩ := ob_at e b 35 rfl; exact df35 h1 h2 h3
  | 36, h => cases h; obtain ⟨h1, h2, h3⟩ := ob_at e b 36 rfl; exact df36 h1 h2 h3
  | 37, h => cases h; obtain ⟨h1, h2, h3⟩ := ob_at e b 37 rfl; exact df37 h1 h2 h3
  | 38, h => cases h; obtain ⟨h1, h2, h3⟩ := ob_at e b 38 rfl; exact df38 h1 h2 h3
  | 39, h => cases h; obtain ⟨h1, h2, h3⟩ := ob_at e b 39 rfl; exact df39 h1 h2 h3
  | 40, h => cases h; obtain ⟨h1, h2, h3⟩ := ob_at e b 40 rfl; exact df40 h1 h2 h3
  | 41, h => cases h; obtain ⟨h1, h2, h3⟩ := ob_at e b 41 rfl; exact df41 h1 h2 h3
  | 42, h => cases h; obtain ⟨h1, h2, h3⟩ := ob_at e b 42 rfl; exact df42 h1 h2 h3
  | 43, h => cases h; obtain ⟨h1, h2, h3⟩ := ob_at e b 43 rfl; exact df43 h1 h2 h3
  | 44, h => cases h; obtain ⟨h1, h2, h3⟩ := ob_at e b 44 rfl; exact df44 h1 h2 h3
  | 45, h => cases h; obtain ⟨h1, h2, h3⟩ := ob_at e b 45 rfl; exact df45 h1 h2 h3
  | 46, h => cases h; obtain ⟨h1, h2, h3⟩ := ob_at e b 46 rfl; exact df46 h1 h2 h3
  | 47, h => cases h; obtain ⟨h1, h2, h3⟩ := ob_at e b 47 rfl; exact df47 h1 h2 h3
  | 48, h => cases h; obtain ⟨h1, h2, h3⟩ := ob_at e b 48 rfl; exact df48 h1 h2 h3
  | 49, h => cases h; obtain ⟨h1, h2, h3⟩ := ob_at e b 49 rfl; exact df49 h1 h2 h3
  | 50, h => cases h; obtain ⟨h1, h2, h3⟩ := ob_at e b 50 rfl; exact df50 h1 h2 h3
  | 51, h => cases h; obtain ⟨h1, h2, h3⟩ := ob_at e b 51 rfl; exact df51 h1 h2 h3
  | n + 52, h => exact absurd hk (by omega)
def keyL : List (Nat × Nat) := [(23, 1)]
theorem kd_mem : ∀ k j, keyD (fnT k) j = true → (k, j) ∈ keyL := by
  intro k j h
  unfold fnT at h
  split at h <;> first
    | exact absurd h Bool.false_ne_true
    | (obtain rfl : j = 1 := by
        have z : (1 : Int) = (j : Int) := of_decide_eq_true h
        omega
       decide)
theorem kds {K : PySem.W.Frag} (e : obB K = obV) (b : (obL.all fun p => (Fa.code p.1 p.2.2.1).ok K && PySem.W.keepIn K (.ref (fAd K p.1))) = true) : ∀ k j, keyD ((sig K).T k) j = true → KTxt K ((sig K).fa k) j := fun k j h => by
  have m := kd_mem k j h
  simp only [keyL, List.mem_cons, List.not_mem_nil, or_false, Prod.mk.injEq] at m
  rcases m with ⟨rfl, rfl⟩
  · obtain ⟨h1, h2, h3⟩ := ob_at e b 23 rfl
    obtain ⟨fd, F⟩ := fun_he (st := s23) h1 h2 h3
    exact ⟨"piece", _, _, s23, fd, _, _, _, _, _, F, sc23, rfl, by decide +kernel, rfl, F.binds fun _ _ _ _ _ _ us hl => match us, hl with | [_], _ => rfl⟩
theorem xis {K : PySem.W.Frag} {P : Program} {w : World} {mg : Str → Option Value} {base h : Heap} (X : K.In h) (N : h.Ns mainGlobals mg) (e : obB K = obV) (bb : basB (sig K) tabs (xkL K) = true) (b : (obL.all fun p => (Fa.code p.1 p.2.2.1).ok K && PySem.W.keepIn K (.ref (fAd K p.1))) = true) (ow : (ownB K (ga K "SlackError")) = true) (O : ∀ c, (sig K).Γ.xf c ≠ [] → XOk (sig K) K c) :
    ∀ c, (sig K).Γ.xf c ≠ [] → ∃ (fI : Addr) (fdv : FuncData) (ps : List Str), (c, fI) ∈ xkL K ∧ (∀ k, FnOk P w K mg base (L2.CX P w) (k + 1) fI fdv ps (spX (sig K) c)) ∧ Binds K fdv ps [] := fun c hc => by
  have hgc : gcB (sig K) gcL = true := by
    unfold basB at bb
    simp only [Bool.and_eq_true] at bb
    exact bb.2.1
  unfold gcB at hgc
  have m := ((tab2 K).xo c hc).1
  change (c, xfT c) ∈ tabs.xo at m
  have mem : c ∈ [1, 2, 3, 4] := by
    have := List.mem_map.mpr ⟨_, m, (rfl : (c, xfT c).1 = c)⟩
    exact this
  have O := O c hc
  clear m hc
  simp only [List.mem_cons, List.not_mem_nil, or_false] at mem
  rcases mem with rfl | rfl | rfl | rfl
  · obtain ⟨h1, h2, h3⟩ := ob_at e b 52 rfl
    obtain ⟨fd, F⟩ := fun_he (st := t1) h1 h2 h3
    have z := all_at hgc (show (("SlackError" : Str), 0) ∈ gcL by decide)
    exact ⟨_, fd, q1, by simp [xkL], fun k => ini_ok F ni1 (PySem.W.mg_of X N (eqO_ok z)) rfl (ownB_ok ow) O rfl, F.binds fun _ _ _ _ _ _ us hl => match us, hl with | [_, _, _], _ => rfl⟩
  · obtain ⟨h1, h2, h3⟩ := ob_at e b 53 rfl
    obtain ⟨fd, F⟩ := fun_he (st := t2) h1 h2 h3
    have z := all_at hgc (show (("SlackError" : Str), 0) ∈ gcL by decide)
    exact ⟨_, fd, q2, by simp [xkL], fun k => ini_ok F ni2 (PySem.W.mg_of X N (eqO_ok z)) rfl (ownB_ok ow) O rfl, F.binds fun _ _ _ _ _ _ us hl => match us, hl with | [_, _, _], _ => rfl⟩
  · obtain ⟨h1, h2, h3⟩ := ob_at e b 54 rfl
    obtain ⟨fd, F⟩ := fun_he (st := t3) h1 h2 h3
    have z := all_at hgc (show (("SlackError" : Str), 0) ∈ gcL by decide)
    exact ⟨_, fd, q3, by simp [xkL], fun k => ini_ok F ni3 (PySem.W.mg_of X N (eqO_ok z)) rfl (ownB_ok ow) O rfl, F.binds fun _ _ _ _ _ _ us hl => match us, hl with | [_, _], _ => rfl⟩
  · obtain ⟨h1, h2, h3⟩ := ob_at e b 55 rfl
    obtain ⟨fd, F⟩ := fun_he (st := t4) h1 h2 h3
    have z := all_at hgc (show (("SlackError" : Str), 0) ∈ gcL by decide)
    exact ⟨_, fd, q4, by simp [xkL], fun k => ini_ok F ni4 (PySem.W.mg_of X N (eqO_ok z)) rfl (ownB_ok ow) O rfl, F.binds fun _ _ _ _ _ _ us hl => match us, hl with | [_, _, _], _ => rfl⟩
theorem F_ok {K : PySem.W.Frag} {P : Program} {w : World} {mg : Str → Option Value} {fa : Addr} {h : Heap} (X : K.In h) (N : h.Ns mainGlobals mg) (hm : mg "law" = some (.ref fa)) (e : obB K = obV) (b : allB K = true) :
    ∃ fd : FuncData, (∀ (s : Shared) (u : Value), BindsTo s fd ⟨[u], []⟩ [("_law_script", u)]) ∧ ∀ base : Heap, K.In base → base.Ns mainGlobals mg → FnOk P w K mg base (L2.CX P w) (lv 10) fa fd ["_law_script"] (spF (sig K) 10 51) := by
  obtain ⟨b1, b⟩ := ba2 b
  obtain ⟨b2, b3⟩ := ba2 b
  obtain ⟨h1, h2, h3⟩ := ob_at e b2 51 rfl
  obtain ⟨fd, F⟩ := fun_he (st := s51) h1 h2 h3
  have hgf : gfB (sig K) gfL = true := by
    unfold basB at b1
    simp only [Bool.and_eq_true] at b1
    exact b1.1
  unfold gfB at hgf
  have z := all_at hgf (show (("law" : Str), 51) ∈ gfL by decide)
  have z1 := PySem.W.mg_of X N (eqO_ok (ba2 z).1)
  have ef : fa = fAd K (("law" : Str), (none : Option Str)) := by
    have := hm.symm.trans z1
    cases this
    rfl
  subst ef
  have hb : Binds K fd ["_law_script"] [] := F.binds fun _ _ _ _ _ _ us hl => match us, hl with | [_], _ => rfl
  refine ⟨fd, fun s u => ?_, fun base hB nB => ?_⟩
  · obtain ⟨oc, od, kV, doc, pm, an, cdv, ct, osl, rfl, lk, hcd⟩ := F.ex
    exact .of_eq rfl
  · have B := bas_ok (G := sig K) (P := P) (w := w) (base := base) X N b1 (tab2 K) (dfs e b2) (kds e b2) (fun O => xis X N e b1 b2 b3 O)
    exact fn_one B (fn_all B 9) (show (sig K).T 51 = some f51 from rfl) F sc51 rfl rfl (ch51 K)
theorem walk {l : PySem.W.OpenLaw} {q : Program} {loose : List Str} {XP : (Str → Option Value) → Heap → Prop} {YP : World → Heap → Prop} {d : DefRec} {K : Params → PySem.W.Frag} (hn : l.most = some 63) (hdf : d.params.defaults = [])
    (hY : ∀ (w : World) (h : Heap), YP w h → (K w.params).In h) (hd : d.name = "law") (E : ∀ w : World, obB (K w.params) = obV) (B : ∀ w : World, allB (K w.params) = true) :
    PySem.W.WalkO q loose XP YP l.row.toRowW d [] (fun f vs => PySem.call f vs) :=
  L2.walk_of (K := K) (n := 63) (k := lv 10) (x := "_law_script") (CX := fun w => L2.CX l.prog w) (sp := fun w => spF (sig (K w.params)) 10 51) hn (by decide) hdf ⟨rfl, by decide, by decide⟩ hY
    (fun w mg fa h KX G hmg => F_ok KX G (by rw [← hd]; exact hmg) (E w) (B w))
    (fun w H a ns h1 h2 h3 => law_sp (G := sig (K w.params)) (bas_nolst (L := tabs) (xk := xkL (K w.params)) (ba2 (B w)).1) (show (sig (K w.params)).T 51 = some f51 from rfl) rfl ev_law H a ns h1 h2 h3)
    (fun w H s e s' h => by obtain ⟨_, _, _, _, _, _, _, _, _, _, _, _, z⟩ := h; exact z)
end K78
open PySem PySem.W PyProof.Rows
set_option maxRecDepth 100000 in
set_option maxHeartbeats 0 in
theorem PySem.Challenge.cw_failslack_k78_texts_of_series_holds : PySem.Challenge.rw_failslack_k78_texts_of_series.Holds := by
  w_on; o_law; k_head; (case hw => w_witness2)
  k_fill
  refine K78.walk (l := PySem.Challenge.rw_failslack_k78_texts_of_series) rfl rfl (fun w h Y => PySem.W.kIn_of Y) rfl ?E ?B
  case E => intro w; kernel_rfl
  case B => intro w; kernel_rfl
