import PyProof.Rows.All
import Wide.All
import OpenK.AllK
import Wide.FinOn
import HandS.ForMost
import HandS.ForExc
import HandS.Wide
import HandS.Walk
import HandS.TupAny
import HandS.TupMul
import HandS.Style
import HandS.Deep
import HandS.Flow
import HandS.SortInts
import HandS.WordsDict
import HandS.Zip
import HandS.WordsExc
import HandS.WideMore
import HandS.Comp
import HandS.TryOnly
import HandS.ExcOwn
import HandS.Defaults
import KE.KStateDown
import HandS.Ends
import HandS.More
import HandS.Words
import HandS.Head0
import HandS.Head1
import HandS.Head2
import HandS.HeadEnd
import HandS.HeadHook1
import HandS.HeadHook2
import PySem.Challenge.RW_rootsinlayers_k17_whole_units_and_fracti
set_option Elab.async false
set_option linter.all false
set_option autoImplicit false
set_option maxRecDepth 100000
/-! the plain machine: data, locals, terms, and what a term does to the locals -/
namespace Fw
open PySem L2

abbrev D := PyData
/-- an object that one local alone holds -/
inductive MO where
  | lst (ds : List D)
  | dic (l : List (D × D))
inductive LVal where
  | imm (d : D)
  | own (m : MO)
abbrev Loc := List (Option LVal)
/-- what an expression gives: data, the object of a local, a new object -/
inductive PVal where
  | imm (d : D)
  | loc (i : Nat)
  | own (m : MO)
inductive Res (α : Type) where
  | ok (a : α) (L : Loc)
  | err (c : Nat) (L : Loc)
  | bad
/-- what a call gives: the value, and what the object lent as the first argument is then -/
inductive FRes where
  | ok (v : LVal) (z : Option LVal)
  | err (c : Nat) (z : Option LVal)
  | bad
inductive SRes where
  | next (L : Loc)
  | brk (L : Loc)
  | cont (L : Loc)
  | ret (v : LVal) (L : Loc)
  | err (c : Nat) (L : Loc)
  | bad

def MO.data : MO → D
  | .lst ds => .list ds
  | .dic l => .dict l
def LVal.data : LVal → D
  | .imm d => d
  | .own m => m.data

@[inline] def Res.bind {α β : Type} (r : Res α) (f : α → Loc → Res β) : Res β := match r with
  | .ok a L => f a L
  | .err c L => .err c L
  | .bad => .bad

/-! ### locals -/
def getL (L : Loc) (i : Nat) : Option LVal := match L[i]? with
  | some (some v) => some v
  | _ => none
def rd (L : Loc) : PVal → Option D
  | .imm d => some d
  | .loc i => (getL L i).map LVal.data
  | .own m => some m.data
/-- the local's object is from now on data -/
def frzL (L : Loc) (i : Nat) : Loc := match getL L i with
  | some v => L.set i (some (.imm v.data))
  | none => L
/-- as data for good -/
def keepD (L : Loc) : PVal → Res D
  | .imm d => .ok d L
  | .own m => .ok m.data L
  | .loc i => match getL L i with
    | some v => .ok v.data (L.set i (some (.imm v.data)))
    | none => .bad
def keepAll : List PVal → Loc → Res (List D)
  | [], L => .ok [] L
  | p :: ps, L => (keepD L p).bind fun d L1 => (keepAll ps L1).bind fun ds L2 => .ok (d :: ds) L2
def rdAll (L : Loc) : List PVal → Option (List D)
  | [] => some []
  | p :: ps => match rd L p, rdAll L ps with
    | some d, some ds => some (d :: ds)
    | _, _ => none

/-! ### operations on data -/
inductive BOp where | add | sub | mul | fdiv | mod | pow
  deriving DecidableEq
inductive COp where | eq | ne | lt | le | gt | ge | isin | notin | isN | notN
  deriving DecidableEq

def line : Nat := 16777216
def wideMul (i j : Int) : Bool := Nat.blt (i.natAbs.log2 + j.natAbs.log2) 1000000
def okDiv (j : Int) : Bool := (decide (0 < j) && Nat.blt j.natAbs.log2 9000) || (!decide (j = 0) && Nat.blt j.natAbs 1073741824)

def opAdd : D → D → Option PVal
  | .int i, .int j => some (.imm (.int (i + j)))
  | .str x, .str y => if x.length + y.length ≤ sizeLine then some (.imm (.str (x ++ y))) else none
  | .list xs, .list ys => if xs.length + ys.length ≤ line then some (.own (.lst (xs ++ ys))) else none
  | .tuple xs, .tuple ys => if xs.length + ys.length ≤ line then some (.imm (.tuple (xs ++ ys))) else none
  | _, _ => none
def opSub : D → D → Option PVal
  | .int i, .int j => some (.imm (.int (i - j)))
  | _, _ => none
def repD (n : Nat) (ds : List D) : List D := (List.replicate n ds).flatten
def opMul : D → D → Option PVal
  | .int i, .int j => if wideMul i j then some (.imm (.int (i * j))) else none
  | .list xs, .int k => if k.natAbs < 16777216 ∧ xs.length * k.toNat ≤ line then some (.own (.lst (repD k.toNat xs))) else none
  | _, _ => none
def opFdiv : D → D → Option PVal
  | .int i, .int j => if okDiv j then some (.imm (.int (i.fdiv j))) else none
  | _, _ => none
def opMod : D → D → Option PVal
  | .int i, .int j => if j = 0 then none else some (.imm (.int (i.fmod j)))
  | _, _ => none
def opPow : D → D → Option PVal
  | .int i, .int j => if 0 ≤ j ∧ j ≤ 1000000 ∧ i.natAbs < 18446744073709551616 then some (.imm (.int (i ^ j.toNat))) else none
  | _, _ => none
def opB : BOp → D → D → Option PVal
  | .add => opAdd
  | .sub => opSub
  | .mul => opMul
  | .fdiv => opFdiv
  | .mod => opMod
  | .pow => opPow

def eqD : D → D → Option Bool
  | .int i, .int j => some (i == j)
  | .none, .none => some true
  | d, e => if SeqAt.shaped d && SeqAt.shaped e then some (PyData.eqv d e) else none
def flatD : D → Bool
  | .int _ => true
  | .str _ => true
  | .bool _ => true
  | .none => true
  | _ => false
/-- a dict's key -/
def keyEq : D → D → Bool
  | .int i, .int j => i == j
  | .str x, .str y => decide (x = y)
  | _, _ => false
def isKey : D → Bool
  | .int _ => true
  | .str _ => true
  | _ => false
def dget (k : D) : List (D × D) → Option D
  | [] => none
  | (k', v) :: r => if keyEq k' k then some v else dget k r
def dput (k v : D) (l : List (D × D)) : List (D × D) :=
  if l.any fun p => keyEq p.1 k then l.map fun p => if keyEq p.1 k then (p.1, v) else p else l ++ [(k, v)]
def memD (x : D) (ds : List D) : Bool := ds.any fun y => PyData.eqv y x
def inD (x : D) : D → Option Bool
  | .list ds => if SeqAt.shaped x && SeqAt.shaped (.list ds) then some (memD x ds) else none
  | .tuple ds => if flatD x && ds.all flatD then some (memD x ds) else none
  | .dict l => if isKey x then some (dget x l).isSome else none
  | _ => none
def ltD : D → D → Option Bool
  | .int i, .int j => some (decide (i < j))
  | _, _ => none
def leD : D → D → Option Bool
  | .int i, .int j => some (decide (i ≤ j))
  | _, _ => none
def isNone : D → Bool
  | .none => true
  | _ => false
def opC : COp → D → D → Option Bool
  | .eq, d, e => eqD d e
  | .ne, d, e => (eqD d e).map not
  | .lt, d, e => ltD d e
  | .le, d, e => leD d e
  | .gt, d, e => ltD e d
  | .ge, d, e => leD e d
  | .isin, d, e => inD d e
  | .notin, d, e => (inD d e).map not
  | .isN, d, .none => some (isNone d)
  | .notN, d, .none => some (!isNone d)
  | _, _, _ => none

def truth : D → Option Bool
  | .bool b => some b
  | .none => some false
  | .int i => some (i != 0)
  | .str x => if x.length ≤ sizeLine then some (x.length != 0) else none
  | .list ds => some (!ds.isEmpty)
  | .tuple ds => some (!ds.isEmpty)
  | _ => none

def ixD (n : Nat) (i : Int) : Option Nat := if 0 ≤ i then (if i < n then some i.toNat else none) else if -(n : Int) ≤ i then some (i + n).toNat else none
def itemD : D → D → Option D
  | .list ds, .int i => (ixD ds.length i).bind fun j => ds[j]?
  | .tuple ds, .int i => (ixD ds.length i).bind fun j => ds[j]?
  | .dict l, k => if isKey k then dget k l else none
  | _, _ => none
def clip (n d : Nat) : Option Int → Nat
  | none => d
  | some i => HT.sIx n d (some i)
def cutD (ds : List D) (lo hi : Option Int) : List D := (ds.drop (HT.sIx ds.length 0 lo)).take (HT.sIx ds.length ds.length hi - HT.sIx ds.length 0 lo)

def intsD : List D → Option (List Int)
  | [] => some []
  | .int i :: r => (intsD r).map (i :: ·)
  | _ :: _ => none
def boolsD : List D → Option (List Bool)
  | [] => some []
  | .bool i :: r => (boolsD r).map (i :: ·)
  | _ :: _ => none
def maxI : Int → List Int → Int
  | m, [] => m
  | m, i :: r => maxI (if m < i then i else m) r
def minI : Int → List Int → Int
  | m, [] => m
  | m, i :: r => minI (if i < m then i else m) r
def insI (x : Int) : List Int → List Int
  | [] => [x]
  | y :: r => if x ≤ y then x :: y :: r else y :: insI x r
def sortI : List Int → List Int
  | [] => []
  | x :: r => insI x (sortI r)

/-- the built-in functions -/
inductive BI where
  | abs | int | len | tuple | list | sum | max2 | min2 | maxL | minL | all | any | sorted
  deriving DecidableEq
def biAbs : List D → Option PVal
  | [.int i] => some (.imm (.int (if i < 0 then -i else i)))
  | _ => none
def biInt : List D → Option PVal
  | [.int i] => some (.imm (.int i))
  | [.bool b] => some (.imm (.int (if b then 1 else 0)))
  | _ => none
def biLen : List D → Option PVal
  | [.list ds] => some (.imm (.int ds.length))
  | [.tuple ds] => some (.imm (.int ds.length))
  | [.dict l] => some (.imm (.int l.length))
  | [.str x] => if x.length ≤ sizeLine then some (.imm (.int x.length)) else none
  | _ => none
def biTuple : List D → Option PVal
  | [.list ds] => some (.imm (.tuple ds))
  | [.tuple ds] => some (.imm (.tuple ds))
  | _ => none
def biList : List D → Option PVal
  | [.list ds] => some (.own (.lst ds))
  | [.tuple ds] => some (.own (.lst ds))
  | _ => none
def biSum : List D → Option PVal
  | [.list ds] => (intsD ds).map fun ns => .imm (.int ns.sum)
  | _ => none
def biMax2 : List D → Option PVal
  | [.int i, .int j] => some (.imm (.int (if j > i then j else i)))
  | _ => none
def biMin2 : List D → Option PVal
  | [.int i, .int j] => some (.imm (.int (if j < i then j else i)))
  | _ => none
def biMaxL : List D → Option PVal
  | [.list ds] => match intsD ds with
    | some (i :: r) => some (.imm (.int (maxI i r)))
    | _ => none
  | _ => none
def biMinL : List D → Option PVal
  | [.list ds] => match intsD ds with
    | some (i :: r) => some (.imm (.int (minI i r)))
    | _ => none
  | _ => none
def biAll : List D → Option PVal
  | [.list ds] => (boolsD ds).map fun bs => .imm (.bool (bs.all id))
  | _ => none
def biAny : List D → Option PVal
  | [.list ds] => (boolsD ds).map fun bs => .imm (.bool (bs.any id))
  | _ => none
def biSorted : List D → Option PVal
  | [.list ds] => (intsD ds).map fun ns => .own (.lst ((sortI ns).map .int))
  | _ => none
def opBI : BI → List D → Option PVal
  | .abs => biAbs
  | .int => biInt
  | .len => biLen
  | .tuple => biTuple
  | .list => biList
  | .sum => biSum
  | .max2 => biMax2
  | .min2 => biMin2
  | .maxL => biMaxL
  | .minL => biMinL
  | .all => biAll
  | .any => biAny
  | .sorted => biSorted

/-! ### terms -/
inductive E where
  | var (i : Nat)
  | cst (d : D)
  | gcon (k : Nat)
  | bin (op : BOp) (a b : E)
  | neg (a : E)
  | not (a : E)
  | cmp (op : COp) (a b : E)
  | chn (o1 o2 : COp) (a b c : E)
  | and (a b : E)
  | or (a b : E)
  | ite (c a b : E)
  | tup (as : E)
  | lst (as : E)
  | nil
  | cons (a as : E)
  | item (a b : E)
  | slc (a lo hi : E)
  | rev (a : E)
  | call (f : Nat) (as : E)
  | callT (f : Nat) (i : Nat) (as : E)
  | bi (b : BI) (as : E)
  | dct (as : E)
  | append (i : Nat) (a : E)
  | extend (i : Nat) (a : E)
  | pop0 (i : Nat)
  | pop1 (i : Nat) (a : E)
  | comp (own : List Nat) (tg it cond elt : E)
  | rng1 (as : E)
  | rng2 (as : E)
  | rng3 (as : E)
  | zip (as : E)
  | enu (as : E)

abbrev Calls := Nat → List LVal → FRes

/-- a target that takes data -/
def setV (ln : Bool) (i : Nat) (v : LVal) (L : Loc) : Option Loc := if i < L.length ∧ ¬ (ln = true ∧ i = 0) then some (L.set i (some v)) else none
/-- an item of data, into a name or into names -/
def asgD (ln : Bool) : E → D → Loc → Option Loc
  | .var i, d, L => setV ln i (.imm d) L
  | .tup t, .tuple ds, L => asgD ln t (.list ds) L
  | .nil, .list [], L => some L
  | .cons t r, .list (d :: ds), L => match asgD ln t d L with
    | some L1 => asgD ln r (.list ds) L1
    | none => none
  | _, _, _ => none

def wipeL (L : Loc) : List Nat → Loc
  | [] => L
  | v :: vs => (wipeL L vs).set v none
/-- the locals that a block hides become data -/
def hideL (L : Loc) : List Nat → Loc
  | [] => L
  | v :: vs => frzL (hideL L vs) v
/-- back from the block: the hidden ones as they were in K -/
def backL (K L : Loc) : List Nat → Loc
  | [] => L
  | v :: vs => match K[v]? with
    | some x => (backL K L vs).set v x
    | none => backL K L vs

def compLoop (own : List Nat) (asg : D → Loc → Option Loc) (cond : Loc → Res Bool) (elt : Loc → Res D) : List D → Loc → Res (List D)
  | [], L => .ok [] L
  | d :: ds, L => match asg d (wipeL L own) with
    | some L1 => (cond L1).bind fun b L2 => match b with
      | true => (elt L2).bind fun y L3 => (compLoop own asg cond elt ds L3).bind fun ys L4 => .ok (y :: ys) L4
      | false => compLoop own asg cond elt ds L2
    | none => .bad

def rng1 (j : Int) : Option (List D) := if -4611686018427387904 ≤ j ∧ j < 4611686018427387904 then some ((List.range j.toNat).map fun (k : Nat) => .int (0 + k)) else none
def rng2 (i j : Int) : Option (List D) := if -4611686018427387904 ≤ i ∧ i < 4611686018427387904 ∧ -4611686018427387904 ≤ j ∧ j < 4611686018427387904 then some ((List.range (j - i).toNat).map fun (k : Nat) => .int (i + k)) else none
def rng3 (i j c : Int) : Option (List D) := if c ≠ 0 ∧ c.natAbs < 1073741824 ∧ Builtin.Range.small i j c = true then some ((List.range (Builtin.Range.rangeSize i j c).toNat).map fun (k : Nat) => .int (i + k * c)) else none
def zipD : List D → List D → List D
  | x :: xs, y :: ys => .tuple [x, y] :: zipD xs ys
  | _, _ => []
def enuD : Nat → List D → List D
  | _, [] => []
  | n, x :: xs => .tuple [.int n, x] :: enuD (n + 1) xs
def seqD : D → Option (List D)
  | .list ds => some ds
  | .tuple ds => some ds
  | _ => none
def noErr {α : Type} : Res α → Res α
  | .err _ _ => .bad
  | r => r
def ofOpt {α : Type} (o : Option α) (L : Loc) : Res α := match o with
  | some a => .ok a L
  | none => .bad


/-! ### what a term does: combinators -/
abbrev FE := Loc → Res PVal
abbrev FT := Loc → Res Bool
abbrev FA := Loc → Res (List PVal)
abbrev FI := Loc → Res (List D)
abbrev FO := Loc → Res (Option Int)

def varF (i : Nat) : FE := fun L => match getL L i with
  | some (.imm d) => .ok (.imm d) L
  | some (.own _) => .ok (.loc i) L
  | none => .bad
def cstF (d : D) : FE := fun L => .ok (.imm d) L
def optF (o : Option D) : FE := fun L => match o with
  | some d => .ok (.imm d) L
  | none => .bad
/-- two parts, then an operation on their data -/
def twoF {α : Type} (f g : FE) (k : D → D → Loc → Res α) : Loc → Res α := fun L => (f L).bind fun p L1 => (g L1).bind fun q L2 => match rd L2 p, rd L2 q with
  | some d, some e => k d e L2
  | _, _ => .bad
def oneF {α : Type} (f : FE) (k : D → Loc → Res α) : Loc → Res α := fun L => (f L).bind fun p L1 => match rd L1 p with
  | some d => k d L1
  | none => .bad
def binF (op : BOp) (f g : FE) : FE := twoF f g fun d e L => ofOpt (opB op d e) L
def negF (f : FE) : FE := oneF f fun d L => match d with
  | .int i => .ok (.imm (.int (-i))) L
  | _ => .bad
def notF (t : FT) : FE := fun L => (t L).bind fun b L1 => .ok (.imm (.bool (!b))) L1
def notT (t : FT) : FT := fun L => (t L).bind fun b L1 => .ok (!b) L1
def cmpT (op : COp) (f g : FE) : FT := twoF f g fun d e L => ofOpt (opC op d e) L
def cmpF (op : COp) (f g : FE) : FE := twoF f g fun d e L => ofOpt ((opC op d e).map fun b => .imm (.bool b)) L
def chnT (o1 o2 : COp) (f g h : FE) : FT := fun L => (f L).bind fun p L1 => (g L1).bind fun q L2 => match rd L2 p, rd L2 q with
  | some d, some e => match opC o1 d e with
    | some true => (h L2).bind fun r L3 => match rd L3 q, rd L3 r with
      | some e', some z => ofOpt (opC o2 e' z) L3
      | _, _ => .bad
    | some false => .ok false L2
    | none => .bad
  | _, _ => .bad
def ofT (t : FT) : FE := fun L => (t L).bind fun b L1 => .ok (.imm (.bool b)) L1
def andF (f g : FE) : FE := fun L => (f L).bind fun p L1 => match p with
  | .imm (.bool true) => g L1
  | .imm (.bool false) => .ok (.imm (.bool false)) L1
  | _ => .bad
def orF (f g : FE) : FE := fun L => (f L).bind fun p L1 => match p with
  | .imm (.bool true) => .ok (.imm (.bool true)) L1
  | .imm (.bool false) => g L1
  | _ => .bad
def andT (f g : FT) : FT := fun L => (f L).bind fun k L1 => match k with
  | true => g L1
  | false => .ok false L1
def orT (f g : FT) : FT := fun L => (f L).bind fun k L1 => match k with
  | true => .ok true L1
  | false => g L1
def truF (f : FE) : FT := oneF f fun d L => ofOpt (truth d) L
def iteF (c : FT) (f g : FE) : FE := fun L => (c L).bind fun k L1 => match k with
  | true => f L1
  | false => g L1
def nilA : FA := fun L => .ok [] L
def consA (f : FE) (r : FA) : FA := fun L => (f L).bind fun p L1 => (r L1).bind fun ps L2 => .ok (p :: ps) L2
/-- arguments as data for good -/
def keptF {α : Type} (r : FA) (k : List D → Loc → Res α) : Loc → Res α := fun L => (r L).bind fun ps L1 => (keepAll ps L1).bind k
def tupF (r : FA) : FE := keptF r fun ds L => if ds.length ≤ line then .ok (.imm (.tuple ds)) L else .bad
def lstF (r : FA) : FE := keptF r fun ds L => if ds.length ≤ line then .ok (.own (.lst ds)) L else .bad
def pairUp : List D → Option (List (D × D))
  | [] => some []
  | k :: v :: r => if isKey k then (pairUp r).map (fun l => (k, v) :: l) else none
  | _ => none
def mergeD (l : List (D × D)) : List (D × D) → List (D × D)
  | [] => l
  | (k, v) :: r => mergeD (dput k v l) r
def dctF (r : FA) : FE := keptF r fun ds L => match pairUp ds with
  | some l => if l.length ≤ 15 then .ok (.own (.dic (mergeD [] l))) L else .bad
  | none => .bad
def itemF (f g : FE) : FE := twoF f g fun d e L => match itemD d e with
  | some x => .ok (.imm x) L
  | none => .bad
def nonO : FO := fun L => .ok none L
def someO (f : FE) : FO := oneF f fun d L => match d with
  | .int i => .ok (some i) L
  | _ => .bad
def slcF (f : FE) (lo hi : FO) : FE := fun L => (f L).bind fun p L1 => (lo L1).bind fun l L2 => (hi L2).bind fun h L3 => match rd L3 p with
  | some (.list ds) => .ok (.own (.lst (cutD ds l h))) L3
  | some (.tuple ds) => .ok (.imm (.tuple (cutD ds l h))) L3
  | _ => .bad
def revF (f : FE) : FE := oneF f fun d L => match d with
  | .list ds => .ok (.own (.lst ds.reverse)) L
  | _ => .bad
def callK (C : Calls) (f : Nat) (ds : List D) (L : Loc) : Res PVal := match C f (ds.map .imm) with
  | .ok (.imm d) _ => .ok (.imm d) L
  | .ok (.own m) _ => .ok (.own m) L
  | .err c _ => .err c L
  | .bad => .bad
def callF (C : Calls) (f : Nat) (r : FA) : FE := keptF r (callK C f)
def callTK (C : Calls) (f i : Nat) (ds : List D) (L : Loc) : Res PVal := match getL L i with
  | some (.own m0) => match C f (.own m0 :: ds.map .imm) with
    | .ok (.imm d) (some z) => .ok (.imm d) (L.set i (some z))
    | .ok (.own m) (some z) => .ok (.own m) (L.set i (some z))
    | .err c (some z) => .err c (L.set i (some z))
    | _ => .bad
  | _ => .bad
def callTF (C : Calls) (f i : Nat) (r : FA) : FE := fun L => match getL L i with
  | some (.own _) => keptF r (callTK C f i) L
  | _ => .bad
def biF (b : BI) (r : FA) : FE := fun L => (r L).bind fun ps L1 => match rdAll L1 ps with
  | some ds => ofOpt (opBI b ds) L1
  | none => .bad
/-- data for good, then something at the object of local i -/
def atF (i : Nat) (f : FE) (k : MO → D → Option (D × MO)) : FE := fun L => match getL L i with
  | some (.own (.lst _)) => (f L).bind fun p L1 => (keepD L1 p).bind fun d L2 => match getL L2 i with
    | some (.own m) => match k m d with
      | some (x, m') => .ok (.imm x) (L2.set i (some (.own m')))
      | none => .bad
    | _ => .bad
  | _ => .bad
def at0F (i : Nat) (k : MO → Option (D × MO)) : FE := fun L => match getL L i with
  | some (.own m) => match k m with
    | some (x, m') => .ok (.imm x) (L.set i (some (.own m')))
    | none => .bad
  | _ => .bad
def kAppend : MO → D → Option (D × MO)
  | .lst ds, d => if ds.length < line then some (.none, .lst (ds ++ [d])) else none
  | _, _ => none
def kExtend : MO → D → Option (D × MO)
  | .lst ds, .list es => if ds.length + es.length ≤ line then some (.none, .lst (ds ++ es)) else none
  | _, _ => none
def kPop : MO → Option (D × MO)
  | .lst ds => match ds[ds.length - 1]? with
    | some d => some (d, .lst ds.dropLast)
    | none => none
  | _ => none
def kPopAt : MO → D → Option (D × MO)
  | .lst ds, .int k => match ixD ds.length k with
    | some j => match ds[j]? with
      | some d => some (d, .lst (ds.eraseIdx j))
      | none => none
    | none => none
  | _, _ => none
def kSetL (ds : List D) (k v : D) : Option MO := match k with
  | .int k => match ixD ds.length k with
    | some j => some (.lst (ds.set j v))
    | none => none
  | _ => none
def kSetD (l : List (D × D)) (k v : D) : Option MO := if isKey k ∧ l.length < line then some (.dic (dput k v l)) else none
def kSet : MO → D → D → Option MO
  | .lst ds => kSetL ds
  | .dic l => kSetD l
def compF (own : List Nat) (it : FI) (asg : D → Loc → Option Loc) (cond : FT) (elt : FE) : FE := fun L => (it L).bind fun ds L1 =>
  if ds.length ≤ line then
    match compLoop own asg (fun K => noErr (cond K)) (fun K => noErr ((elt K).bind fun p K1 => keepD K1 p)) ds (hideL L1 own) with
    | .ok ys L2 => .ok (.own (.lst ys)) (backL (hideL L1 own) L2 own)
    | _ => .bad
  else .bad
def rngI1 (r : FA) : FI := fun L => (r L).bind fun ps L1 => match rdAll L1 ps with
  | some [.int j] => ofOpt (rng1 j) L1
  | _ => .bad
def rngI2 (r : FA) : FI := fun L => (r L).bind fun ps L1 => match rdAll L1 ps with
  | some [.int i, .int j] => ofOpt (rng2 i j) L1
  | _ => .bad
def rngI3 (r : FA) : FI := fun L => (r L).bind fun ps L1 => match rdAll L1 ps with
  | some [.int i, .int j, .int c] => ofOpt (rng3 i j c) L1
  | _ => .bad
def zipI (r : FA) : FI := keptF r fun ds L => match ds with
  | [.list xs, .list ys] => .ok (zipD xs ys) L
  | [.tuple xs, .tuple ys] => .ok (zipD xs ys) L
  | _ => .bad
def enuI (r : FA) : FI := keptF r fun ds L => match ds with
  | [.list xs] => .ok (enuD 0 xs) L
  | _ => .bad
def seqI (f : FE) : FI := fun L => (f L).bind fun p L1 => (keepD L1 p).bind fun d L2 => ofOpt (seqD d) L2

structure Den where
  e : FE
  t : FT
  a : FA
  o : FO
  k : FT
  i : FI
def badF {α : Type} : Loc → Res α := fun _ => .bad
/-- an expression of any kind -/
@[reducible] def Den.of (e : FE) (t : FT) : Den := ⟨e, t, badF, someO e, t, seqI e⟩

def den (C : Calls) (G : Nat → Option D) (ln : Bool) : E → Den
  | .var i => .of (varF i) (truF (varF i))
  | .cst d => .of (cstF d) (truF (cstF d))
  | .gcon k => .of (optF (G k)) (truF (optF (G k)))
  | .bin op a b => .of (binF op (den C G ln a).e (den C G ln b).e) (truF (binF op (den C G ln a).e (den C G ln b).e))
  | .neg a => .of (negF (den C G ln a).e) (truF (negF (den C G ln a).e))
  | .not a => .of (notF (truF (den C G ln a).e)) (notT (den C G ln a).t)
  | .cmp op a b => .of (cmpF op (den C G ln a).e (den C G ln b).e) (cmpT op (den C G ln a).e (den C G ln b).e)
  | .chn o1 o2 a b c => .of (ofT (chnT o1 o2 (den C G ln a).e (den C G ln b).e (den C G ln c).e)) (chnT o1 o2 (den C G ln a).e (den C G ln b).e (den C G ln c).e)
  | .and a b => .of (andF (den C G ln a).e (den C G ln b).e) (andT (den C G ln a).t (den C G ln b).t)
  | .or a b => .of (orF (den C G ln a).e (den C G ln b).e) (orT (den C G ln a).t (den C G ln b).t)
  | .ite c a b => .of (iteF (den C G ln c).t (den C G ln a).e (den C G ln b).e) (truF (iteF (den C G ln c).t (den C G ln a).e (den C G ln b).e))
  | .tup as => .of (tupF (den C G ln as).a) (truF (tupF (den C G ln as).a))
  | .lst as => .of (lstF (den C G ln as).a) (truF (lstF (den C G ln as).a))
  | .nil => ⟨badF, badF, nilA, nonO, fun L => .ok true L, badF⟩
  | .cons a as => ⟨badF, badF, consA (den C G ln a).e (den C G ln as).a, badF, badF, badF⟩
  | .item a b => .of (itemF (den C G ln a).e (den C G ln b).e) (truF (itemF (den C G ln a).e (den C G ln b).e))
  | .slc a lo hi => .of (slcF (den C G ln a).e (den C G ln lo).o (den C G ln hi).o) (truF (slcF (den C G ln a).e (den C G ln lo).o (den C G ln hi).o))
  | .rev a => .of (revF (den C G ln a).e) (truF (revF (den C G ln a).e))
  | .call f as => .of (callF C f (den C G ln as).a) (truF (callF C f (den C G ln as).a))
  | .callT f i as => .of (callTF C f i (den C G ln as).a) (truF (callTF C f i (den C G ln as).a))
  | .bi b as => .of (biF b (den C G ln as).a) (truF (biF b (den C G ln as).a))
  | .dct as => .of (dctF (den C G ln as).a) (truF (dctF (den C G ln as).a))
  | .append i a => .of (atF i (den C G ln a).e kAppend) badF
  | .extend i a => .of (atF i (den C G ln a).e kExtend) badF
  | .pop0 i => .of (at0F i kPop) (truF (at0F i kPop))
  | .pop1 i a => .of (atF i (den C G ln a).e kPopAt) (truF (atF i (den C G ln a).e kPopAt))
  | .comp own tg it cond elt => .of (compF own (den C G ln it).i (asgD ln tg) (den C G ln cond).k (den C G ln elt).e) badF
  | .rng1 as => ⟨badF, badF, badF, badF, badF, rngI1 (den C G ln as).a⟩
  | .rng2 as => ⟨badF, badF, badF, badF, badF, rngI2 (den C G ln as).a⟩
  | .rng3 as => ⟨badF, badF, badF, badF, badF, rngI3 (den C G ln as).a⟩
  | .zip as => ⟨badF, badF, badF, badF, badF, zipI (den C G ln as).a⟩
  | .enu as => ⟨badF, badF, badF, badF, badF, enuI (den C G ln as).a⟩

/-! ### statements -/
inductive S where
  | pass
  | seq (a b : S)
  | asg (i : Nat) (e : E)
  | asgT (t e : E)
  | par (is : List Nat) (as : E)
  | put (i : Nat) (k e : E)
  | aug (op : BOp) (i : Nat) (e : E)
  | ex (e : E)
  | ret (e : E)
  | retN
  | cond (c : E) (a b : S)
  | loop (c : E) (a : S)
  | each (t it : E) (a : S)
  | brk
  | cont
  | raise (c : Nat)
  | attempt (a : S) (yes no : List Nat) (b : S)

abbrev FS := Loc → SRes
@[inline] def Res.toS {α : Type} (r : Res α) (f : α → Loc → SRes) : SRes := match r with
  | .ok a L => f a L
  | .err c L => .err c L
  | .bad => .bad
def seqS (a b : FS) : FS := fun L => match a L with
  | .next L1 => b L1
  | r => r
/-- another local's object is data from now on -/
def fixP (L : Loc) : PVal → Res PVal
  | .loc j => match getL L j with
    | some v => .ok (.imm v.data) (L.set j (some (.imm v.data)))
    | none => .bad
  | p => .ok p L
def fixAll : List PVal → Loc → Res (List PVal)
  | [], L => .ok [] L
  | p :: ps, L => (fixP L p).bind fun q L1 => (fixAll ps L1).bind fun qs L2 => .ok (q :: qs) L2
/-- a new value for a name -/
def asgV (ln : Bool) (i : Nat) (p : PVal) (L : Loc) : Option Loc := match p with
  | .imm d => setV ln i (.imm d) L
  | .own m => setV ln i (.own m) L
  | .loc _ => none
def asgS (ln : Bool) (i : Nat) (f : FE) : FS := fun L => (f L).toS fun p L1 => (fixP L1 p).toS fun q L2 => match asgV ln i q L2 with
  | some L3 => .next L3
  | none => .bad
def asgTS (asg : D → Loc → Option Loc) (f : FE) : FS := fun L => (f L).toS fun p L1 => (keepD L1 p).toS fun d L2 => match asg d L2 with
  | some L3 => .next L3
  | none => .bad
/-- names, values of their own -/
def asgVs (ln : Bool) : List Nat → List PVal → Loc → Option Loc
  | [], [], L => some L
  | i :: is, p :: ps, L => match asgV ln i p L with
    | some L1 => asgVs ln is ps L1
    | none => none
  | _, _, _ => none
def parS (ln : Bool) (is : List Nat) (r : FA) : FS := fun L => (r L).toS fun ps L1 => (fixAll ps L1).toS fun qs L2 => match asgVs ln is qs L2 with
  | some L3 => .next L3
  | none => .bad
/-- x[k] = e: e first -/
def putK2 (i : Nat) (kd v : D) (L : Loc) : SRes := match getL L i with
  | some (.own m) => match kSet m kd v with
    | some m' => .next (L.set i (some (.own m')))
    | none => .bad
  | _ => .bad
def putK1 (i : Nat) (k : FE) (v : D) (L : Loc) : SRes := match getL L i with
  | some (.own _) => (k L).toS fun q L1 => (keepD L1 q).toS fun kd L2 => putK2 i kd v L2
  | _ => .bad
def putS (i : Nat) (k e : FE) : FS := fun L => (e L).toS fun p L1 => (keepD L1 p).toS fun v L2 => putK1 i k v L2
def augI (op : BOp) (i j : Int) : Option Int := match op with
  | .add => some (i + j)
  | .sub => some (i - j)
  | .mul => if wideMul i j then some (i * j) else none
  | .fdiv => if 0 < j ∧ j.natAbs.log2 < 9000 then some (i.fdiv j) else none
  | .mod => if 0 < j then some (i.fmod j) else none
  | .pow => none
def augK (op : BOp) (d e : D) : Option D := match d, e with
  | .int i, .int j => match augI op i j with
    | some z => some (.int z)
    | none => none
  | .str x, .str y => if op = .add ∧ x.length + y.length ≤ sizeLine then some (.str (x ++ y)) else none
  | _, _ => none
def augS (ln : Bool) (op : BOp) (i : Nat) (e : FE) : FS := fun L => match getL L i with
  | some (.imm x) => (e L).toS fun p L1 => match rd L1 p with
    | some y => match augK op x y with
      | some z => match setV ln i (.imm z) L1 with
        | some L2 => .next L2
        | none => .bad
      | none => .bad
    | none => .bad
  | _ => .bad
def exS (e : FE) : FS := fun L => (e L).toS fun _ L1 => .next L1
def retS (ln : Bool) (e : FE) : FS := fun L => (e L).toS fun p L1 => match p with
  | .imm d => .ret (.imm d) L1
  | .own m => .ret (.own m) L1
  | .loc i => match getL L1 i with
    | some v => if ln = true then .ret (.imm v.data) (L1.set i (some (.imm v.data))) else .ret v (L1.set i none)
    | none => .bad
def condS (c : FT) (a b : FS) : FS := fun L => (c L).toS fun k L1 => match k with
  | true => a L1
  | false => b L1
def loopS (c : FT) (b : FS) : Nat → FS
  | 0, _ => .bad
  | n + 1, L => (c L).toS fun k L1 => match k with
    | true => match b L1 with
      | .next L2 => loopS c b n L2
      | .cont L2 => loopS c b n L2
      | .brk L2 => .next L2
      | r => r
    | false => .next L1
def eachL (asg : D → Loc → Option Loc) (b : FS) : List D → FS
  | [], L => .next L
  | d :: ds, L => match asg d L with
    | some L1 => match b L1 with
      | .next L2 => eachL asg b ds L2
      | .cont L2 => eachL asg b ds L2
      | .brk L2 => .next L2
      | r => r
    | none => .bad
def eachS (asg : D → Loc → Option Loc) (it : FI) (b : FS) : FS := fun L => (it L).toS fun ds L1 => eachL asg b ds L1
def tryS (a : FS) (yes no : List Nat) (b : FS) : FS := fun L => match a L with
  | .err c L1 => if c ∈ yes then b L1 else if c ∈ no then .err c L1 else .bad
  | r => r

def denS (C : Calls) (G : Nat → Option D) (ln : Bool) (W : Nat) : S → FS
  | .pass => fun L => .next L
  | .seq a b => seqS (denS C G ln W a) (denS C G ln W b)
  | .asg i e => asgS ln i (den C G ln e).e
  | .asgT t e => asgTS (asgD ln t) (den C G ln e).e
  | .par is as => parS ln is (den C G ln as).a
  | .put i k e => putS i (den C G ln k).e (den C G ln e).e
  | .aug op i e => augS ln op i (den C G ln e).e
  | .ex e => exS (den C G ln e).e
  | .ret e => retS ln (den C G ln e).e
  | .retN => fun L => .ret (.imm .none) L
  | .cond c a b => condS (den C G ln c).t (denS C G ln W a) (denS C G ln W b)
  | .loop c a => loopS (den C G ln c).t (denS C G ln W a) W
  | .each t it a => eachS (asgD ln t) (den C G ln it).i (denS C G ln W a)
  | .brk => fun L => .brk L
  | .cont => fun L => .cont L
  | .raise c => fun L => .err c L
  | .attempt a yes no b => tryS (denS C G ln W a) yes no (denS C G ln W b)

/-- a def: how many parameters, how many locals, whether the first argument is lent, its body -/
structure Def where
  np : Nat
  nl : Nat
  lent : Bool
  body : S
/-- what the lent object is at the end -/
def lentZ (lent : Bool) (L : Loc) : Option (Option LVal) := if lent = true then (match getL L 0 with
  | some v => some (some v)
  | none => none) else some none
def endDef (lent : Bool) (r : SRes) : FRes := match r with
  | .next L => match lentZ lent L with
    | some z => .ok (.imm .none) z
    | none => .bad
  | .ret v L => match lentZ lent L with
    | some z => .ok v z
    | none => .bad
  | .err c L => match lentZ lent L with
    | some z => .err c z
    | none => .bad
  | _ => .bad
def runDef (C : Calls) (G : Nat → Option D) (W : Nat) (d : Def) (as : List LVal) : FRes :=
  if as.length = d.np then endDef d.lent (denS C G d.lent W d.body (as.map some ++ List.replicate (d.nl - d.np) none))
  else .bad
/-- the program: calls to a depth of n, whiles of at most W turns -/
def calls (G : Nat → Option D) (W : Nat) (P : List Def) : Nat → Calls
  | 0, _, _ => .bad
  | n + 1, f, as => match P[f]? with
    | some d => runDef (calls G W P n) G W d as
    | none => .bad
end Fw

/-! what the plain machine's locals say of the slots and the heap -/
namespace Fw
open PySem PySem.Spec L2

abbrev Ad := Addr → Prop
def KpL (K : PySem.W.Frag) (S : Ad) (H : Hp) (a : Addr) (xs : List V) : Prop := (S a ∧ Rd H a (.lst xs)) ∨ SqL K (fun _ => none) a xs
def KpT (K : PySem.W.Frag) (S : Ad) (H : Hp) (a : Addr) (xs : List V) : Prop := (S a ∧ Rd H a (.tup xs)) ∨ SqT K (fun _ => none) a xs
def keyD : Key → D
  | .inl i => .int i
  | .inr x => .str x

mutual
inductive Rp (K : PySem.W.Frag) (S : Ad) (H : Hp) : D → V → Prop
  | non : Rp K S H .none .non
  | bl (b : Bool) : Rp K S H (.bool b) (.bl b)
  | int (i : Int) : Rp K S H (.int i) (.int i)
  | str (x : Str) : Rp K S H (.str x) (.str x)
  | lst {a : Addr} {xs : List V} {ds : List D} : KpL K S H a xs → RpA K S H ds xs → Rp K S H (.list ds) (.ref a)
  | tup {a : Addr} {xs : List V} {ds : List D} : KpT K S H a xs → RpA K S H ds xs → Rp K S H (.tuple ds) (.ref a)
  | dic {a : Addr} {kvs : List (Key × V)} {l : List (D × D)} : S a → Rd H a (.dK kvs) → l.map Prod.fst = kvs.map (fun p => keyD p.1) → RpA K S H (l.map Prod.snd) (kvs.map Prod.snd) → Rp K S H (.dict l) (.ref a)
inductive RpA (K : PySem.W.Frag) (S : Ad) (H : Hp) : List D → List V → Prop
  | nil : RpA K S H [] []
  | cons {d : D} {ds : List D} {v : V} {vs : List V} : Rp K S H d v → RpA K S H ds vs → RpA K S H (d :: ds) (v :: vs)
end

section
variable {K : PySem.W.Frag} {S S' : Ad} {H H' : Hp}
theorem Rd.keep {a : Addr} {u : HO} (hH : ∀ o, H a = some o → H' a = some o) : Rd H a u → Rd H' a u
  | .inl h => .inl (hH _ h)
  | .inr ⟨o, h⟩ => .inr ⟨o, hH _ h⟩
theorem KpL.mono (hS : ∀ a, S a → S' a) (hH : ∀ a o, S a → H a = some o → H' a = some o) {a : Addr} {xs : List V} : KpL K S H a xs → KpL K S' H' a xs
  | .inl ⟨h, r⟩ => .inl ⟨hS _ h, Rd.keep (fun o => hH a o h) r⟩
  | .inr h => .inr h
theorem KpT.mono (hS : ∀ a, S a → S' a) (hH : ∀ a o, S a → H a = some o → H' a = some o) {a : Addr} {xs : List V} : KpT K S H a xs → KpT K S' H' a xs
  | .inl ⟨h, r⟩ => .inl ⟨hS _ h, Rd.keep (fun o => hH a o h) r⟩
  | .inr h => .inr h
mutual
theorem Rp.mono (hS : ∀ a, S a → S' a) (hH : ∀ a o, S a → H a = some o → H' a = some o) : ∀ {d : D} {v : V}, Rp K S H d v → Rp K S' H' d v
  | _, _, .non => .non
  | _, _, .bl b => .bl b
  | _, _, .int i => .int i
  | _, _, .str x => .str x
  | _, _, .lst k r => .lst (k.mono hS hH) (RpA.mono hS hH r)
  | _, _, .tup k r => .tup (k.mono hS hH) (RpA.mono hS hH r)
  | _, _, .dic k r e q => .dic (hS _ k) (Rd.keep (fun o => hH _ o k) r) e (RpA.mono hS hH q)
theorem RpA.mono (hS : ∀ a, S a → S' a) (hH : ∀ a o, S a → H a = some o → H' a = some o) : ∀ {ds : List D} {vs : List V}, RpA K S H ds vs → RpA K S' H' ds vs
  | _, _, .nil => .nil
  | _, _, .cons h t => .cons (Rp.mono hS hH h) (RpA.mono hS hH t)
end
theorem RpA.length : ∀ {ds : List D} {vs : List V}, RpA K S H ds vs → ds.length = vs.length
  | _, _, .nil => rfl
  | _, _, .cons _ t => by rw [List.length_cons, List.length_cons, RpA.length t]
theorem RpA.get : ∀ {ds : List D} {vs : List V} {i : Nat} {d : D}, RpA K S H ds vs → ds[i]? = some d → ∃ v, vs[i]? = some v ∧ Rp K S H d v
  | _, _, _, _, .nil, e => by simp at e
  | _, _, 0, _, .cons h _, e => by simp at e; subst e; exact ⟨_, rfl, h⟩
  | _, _, i + 1, d, .cons _ t, e => by
    obtain ⟨v, h1, h2⟩ := RpA.get (i := i) (d := d) t (by simpa using e)
    exact ⟨v, by simpa using h1, h2⟩
theorem RpA.getV : ∀ {ds : List D} {vs : List V} {i : Nat} {v : V}, RpA K S H ds vs → vs[i]? = some v → ∃ d, ds[i]? = some d ∧ Rp K S H d v
  | _, _, _, _, .nil, e => by simp at e
  | _, _, 0, _, .cons h _, e => by simp at e; subst e; exact ⟨_, rfl, h⟩
  | _, _, i + 1, v, .cons _ t, e => by
    obtain ⟨d, h1, h2⟩ := RpA.getV (i := i) (v := v) t (by simpa using e)
    exact ⟨d, by simpa using h1, h2⟩
theorem RpA.append : ∀ {ds es : List D} {vs ws : List V}, RpA K S H ds vs → RpA K S H es ws → RpA K S H (ds ++ es) (vs ++ ws)
  | _, _, _, _, .nil, s => s
  | _, _, _, _, .cons h t, s => .cons h (RpA.append t s)
theorem RpA.take : ∀ {ds : List D} {vs : List V} (n : Nat), RpA K S H ds vs → RpA K S H (ds.take n) (vs.take n)
  | _, _, 0, _ => .nil
  | _, _, _ + 1, .nil => .nil
  | _, _, n + 1, .cons h t => .cons h (RpA.take n t)
theorem RpA.drop : ∀ {ds : List D} {vs : List V} (n : Nat), RpA K S H ds vs → RpA K S H (ds.drop n) (vs.drop n)
  | _, _, 0, r => r
  | _, _, _ + 1, .nil => .nil
  | _, _, n + 1, .cons _ t => RpA.drop n t
theorem RpA.reverse : ∀ {ds : List D} {vs : List V}, RpA K S H ds vs → RpA K S H ds.reverse vs.reverse
  | _, _, .nil => .nil
  | _, _, .cons h t => by
    rw [List.reverse_cons, List.reverse_cons]
    exact RpA.append (RpA.reverse t) (.cons h .nil)
theorem RpA.set : ∀ {ds : List D} {vs : List V} (i : Nat) {d : D} {v : V}, RpA K S H ds vs → Rp K S H d v → RpA K S H (ds.set i d) (vs.set i v)
  | _, _, _, _, _, .nil, _ => .nil
  | _, _, 0, _, _, .cons _ t, r => .cons r t
  | _, _, i + 1, _, _, .cons h t, r => .cons h (RpA.set i t r)
theorem RpA.eraseIdx : ∀ {ds : List D} {vs : List V} (i : Nat), RpA K S H ds vs → RpA K S H (ds.eraseIdx i) (vs.eraseIdx i)
  | _, _, _, .nil => .nil
  | _, _, 0, .cons _ t => t
  | _, _, i + 1, .cons h t => .cons h (RpA.eraseIdx i t)
theorem RpA.dropLast : ∀ {ds : List D} {vs : List V}, RpA K S H ds vs → RpA K S H ds.dropLast vs.dropLast
  | _, _, .nil => .nil
  | _, _, .cons h .nil => .nil
  | _, _, .cons h (.cons h2 t) => by
    rw [List.dropLast_cons₂, List.dropLast_cons₂]
    exact .cons h (RpA.dropLast (.cons h2 t))
theorem RpA.rep {ds : List D} {vs : List V} (h : RpA K S H ds vs) : ∀ k : Nat, RpA K S H (repD k ds) (List.replicate k vs).flatten
  | 0 => .nil
  | k + 1 => by
    unfold repD
    rw [List.replicate_succ, List.replicate_succ, List.flatten_cons, List.flatten_cons]
    exact RpA.append h (RpA.rep h k)
theorem RpA.ints : ∀ {ds : List D} {vs : List V} {ns : List Int}, RpA K S H ds vs → intsD ds = some ns → ds = ns.map .int ∧ vs = ns.map V.int
  | _, _, ns, .nil, e => by cases e; exact ⟨rfl, rfl⟩
  | _, _, ns, .cons (d := d) (ds := ds) h t, e => by
    cases h <;> try (simp [intsD] at e)
    obtain ⟨m, e1, e2⟩ := e
    obtain ⟨a, b⟩ := RpA.ints t e1
    subst e2
    exact ⟨by rw [a, List.map_cons], by rw [b, List.map_cons]⟩
theorem RpA.bools : ∀ {ds : List D} {vs : List V} {ns : List Bool}, RpA K S H ds vs → boolsD ds = some ns → ds = ns.map .bool ∧ vs = ns.map V.bl
  | _, _, ns, .nil, e => by cases e; exact ⟨rfl, rfl⟩
  | _, _, ns, .cons (d := d) (ds := ds) h t, e => by
    cases h <;> try (simp [boolsD] at e)
    obtain ⟨m, e1, e2⟩ := e
    obtain ⟨a, b⟩ := RpA.bools t e1
    subst e2
    exact ⟨by rw [a, List.map_cons], by rw [b, List.map_cons]⟩
theorem RpA.of_ints : ∀ (ns : List Int), RpA K S H (ns.map .int) (ns.map V.int)
  | [] => .nil
  | n :: ns => .cons (.int n) (RpA.of_ints ns)
theorem KpL.sq {a : Addr} {xs : List V} : KpL K S H a xs → SqL K H a xs
  | .inl ⟨_, r⟩ => .inl r
  | .inr (.inl (.inl h)) => by cases h
  | .inr (.inl (.inr ⟨_, h⟩)) => by cases h
  | .inr (.inr h) => .inr h
theorem KpT.sq {a : Addr} {xs : List V} : KpT K S H a xs → SqT K H a xs
  | .inl ⟨_, r⟩ => .inl r
  | .inr (.inl (.inl h)) => by cases h
  | .inr (.inl (.inr ⟨_, h⟩)) => by cases h
  | .inr (.inr h) => .inr h
mutual
theorem Rp.dp : ∀ {d : D} {v : V}, Rp K S H d v → d.canLay0 = true → Dp K H v d
  | _, _, .non, _ => .non
  | _, _, .bl b, _ => .bl b
  | _, _, .int i, _ => .int i
  | _, _, .str x, _ => .str x
  | _, _, .lst k r, h => .lst k.sq (RpA.dp r (by simpa only [PyData.canLay0] using h))
  | _, _, .tup k r, h => .tup k.sq (RpA.dp r (by simpa only [PyData.canLay0] using h))
  | _, _, .dic k r e q, h => by simp [PyData.canLay0] at h
theorem RpA.dp : ∀ {ds : List D} {vs : List V}, RpA K S H ds vs → PyData.canLayAll0 ds = true → DpAll K H vs ds
  | _, _, .nil, _ => .nil
  | _, _, .cons h t, e => by
    simp only [PyData.canLayAll0, Bool.and_eq_true] at e
    exact .cons (Rp.dp h e.1) (RpA.dp t e.2)
end
end

/-- the object of one local: at p -/
def OwnR (K : PySem.W.Frag) (S : Ad) (H : Hp) (m : MO) (p : Addr) : Prop := match m with
  | .lst ds => ∃ vs, H p = some (.lst vs) ∧ RpA K S H ds vs
  | .dic l => ∃ kvs, H p = some (.dK kvs) ∧ l.map Prod.fst = kvs.map (fun p => keyD p.1) ∧ RpA K S H (l.map Prod.snd) (kvs.map Prod.snd)
def OwnA (L : Loc) (σ : St) (a : Addr) : Prop := ∃ (i : Nat) (m : MO), L[i]? = some (some (LVal.own m)) ∧ σ[i]? = some (some (V.ref a))

structure Rep (K : PySem.W.Frag) (S : Ad) (L : Loc) (σ : St) (H : Hp) : Prop where
  len : L.length = σ.length
  imm : ∀ (i : Nat) (d : D), L[i]? = some (some (LVal.imm d)) → ∃ v, σ[i]? = some (some v) ∧ Rp K S H d v
  own : ∀ (i : Nat) (m : MO), L[i]? = some (some (LVal.own m)) → ∃ p, σ[i]? = some (some (V.ref p)) ∧ ¬ S p ∧ OwnR K S H m p
  inj : ∀ (i j : Nat) (m m' : MO) (p : Addr), L[i]? = some (some (LVal.own m)) → L[j]? = some (some (LVal.own m')) → σ[i]? = some (some (V.ref p)) → σ[j]? = some (some (V.ref p)) → i = j
  trk : ∀ a, S a → H a ≠ none

/-- what may have happened: from L, S, H to L', S', H' -/
structure Nxt (ln : Bool) (L : Loc) (σ : St) (S : Ad) (H : Hp) (L' : Loc) (σ' : St) (S' : Ad) (H' : Hp) : Prop where
  sub : ∀ a, S a → S' a
  new : ∀ a, S' a → S a ∨ H a = none ∨ OwnA L σ a
  keep : ∀ a o, H a = some o → ¬ OwnA L σ a → H' a = some o
  there : ∀ a, H a ≠ none → H' a ≠ none
  own : ∀ a, OwnA L' σ' a → OwnA L σ a ∨ H a = none
  lent : ln = true → σ'[0]? = σ[0]?

section
variable {K : PySem.W.Frag} {ln : Bool} {L L' L'' : Loc} {σ σ' σ'' : St} {S S' S'' : Ad} {H H' H'' : Hp}
theorem Nxt.refl : Nxt ln L σ S H L σ S H := ⟨fun _ h => h, fun _ h => .inl h, fun _ _ h _ => h, fun _ h => h, fun _ h => .inl h, fun _ => rfl⟩
theorem Nxt.trans (a : Nxt ln L σ S H L' σ' S' H') (b : Nxt ln L' σ' S' H' L'' σ'' S'' H'') : Nxt ln L σ S H L'' σ'' S'' H'' where
  sub := fun x h => b.sub x (a.sub x h)
  new := fun x h => by
    rcases b.new x h with h | h | h
    · exact a.new x h
    · refine .inr (.inl ?_)
      cases e : H x with
      | none => rfl
      | some o => exact absurd h (a.there x (by rw [e]; simp))
    · rcases a.own x h with h | h
      · exact .inr (.inr h)
      · exact .inr (.inl h)
  keep := fun x o h n => b.keep x o (a.keep x o h n) fun z => by
    rcases a.own x z with q | q
    · exact n q
    · rw [h] at q; cases q
  there := fun x h => b.there x (a.there x h)
  own := fun x h => by
    rcases b.own x h with h | h
    · exact a.own x h
    · refine .inr ?_
      cases e : H x with
      | none => rfl
      | some o => exact absurd h (a.there x (by rw [e]; simp))
  lent := fun h => (b.lent h).trans (a.lent h)
theorem OwnR.so {m : MO} {p : Addr} (h : OwnR K S H m p) : H p ≠ none := by
  cases m with
  | lst ds => obtain ⟨vs, e, _⟩ := h; rw [e]; simp
  | dic l => obtain ⟨vs, e, _⟩ := h; rw [e]; simp
theorem OwnR.mono {m : MO} {p : Addr} (hS : ∀ a, S a → S' a) (hH : ∀ a o, S a → H a = some o → H' a = some o) (hp : ∀ o, H p = some o → H' p = some o) (h : OwnR K S H m p) : OwnR K S' H' m p := by
  cases m with
  | lst ds => obtain ⟨vs, e, r⟩ := h; exact ⟨vs, hp _ e, r.mono hS hH⟩
  | dic l => obtain ⟨vs, e, k, r⟩ := h; exact ⟨vs, hp _ e, k, r.mono hS hH⟩
theorem Rep.notOwn (r : Rep K S L σ H) {a : Addr} (h : S a) : ¬ OwnA L σ a := fun ⟨i, m, e1, e2⟩ => by
  obtain ⟨p, q1, q2, _⟩ := r.own i m e1
  rw [e2] at q1
  cases q1
  exact q2 h
theorem Rep.ownSome (r : Rep K S L σ H) {a : Addr} (h : OwnA L σ a) : H a ≠ none := by
  obtain ⟨i, m, e1, e2⟩ := h
  obtain ⟨p, q1, _, q3⟩ := r.own i m e1
  rw [e2] at q1
  cases q1
  exact q3.so
theorem Nxt.stay (n : Nxt ln L σ S H L' σ' S' H') (r : Rep K S L σ H) : ∀ a o, S a → H a = some o → H' a = some o := fun a o h e => n.keep a o e (r.notOwn h)
theorem Rp.next (n : Nxt ln L σ S H L' σ' S' H') (r : Rep K S L σ H) {d : D} {v : V} (h : Rp K S H d v) : Rp K S' H' d v := h.mono n.sub (n.stay r)
theorem RpA.next (n : Nxt ln L σ S H L' σ' S' H') (r : Rep K S L σ H) {d : List D} {v : List V} (h : RpA K S H d v) : RpA K S' H' d v := h.mono n.sub (n.stay r)

/-- an expression's value -/
def RelP (K : PySem.W.Frag) (Hs : Hp) (S : Ad) (L : Loc) (σ : St) (H : Hp) (p : PVal) (x : V) : Prop := match p with
  | .imm d => Rp K S H d x
  | .loc i => σ[i]? = some (some x)
  | .own m => ∃ p, x = .ref p ∧ ¬ S p ∧ ¬ OwnA L σ p ∧ Hs p = none ∧ OwnR K S H m p
theorem RelP.next {Hs : Hp} (n : Nxt ln L σ S H L' σ S' H') (r : Rep K S L σ H) {p : PVal} {x : V} (h : RelP K Hs S L σ H p x) : RelP K Hs S' L' σ H' p x := by
  cases p with
  | imm d => exact Rp.next n r h
  | loc i => exact h
  | own m =>
    obtain ⟨p, e, h1, h2, h3, h4⟩ := h
    refine ⟨p, e, fun z => ?_, fun z => ?_, h3, h4.mono n.sub (n.stay r) fun o e => n.keep p o e h2⟩
    · rcases n.new p z with z | z | z
      · exact h1 z
      · exact h4.so z
      · exact h2 z
    · rcases n.own p z with z | z
      · exact h2 z
      · exact h4.so z
/-- what is read of a value, here and now -/
def Vw (K : PySem.W.Frag) (S : Ad) (H : Hp) (d : D) (x : V) : Prop := Rp K S H d x ∨ ∃ p m, x = .ref p ∧ OwnR K S H m p ∧ d = m.data
theorem getL_some {i : Nat} {v : LVal} (h : getL L i = some v) : L[i]? = some (some v) := by
  unfold getL at h
  split at h
  · rename_i w e
    cases h
    exact e
  · cases h
theorem getL_of {i : Nat} {v : LVal} (h : L[i]? = some (some v)) : getL L i = some v := by
  unfold getL
  rw [h]
theorem Rep.view (r : Rep K S L σ H) {Hs : Hp} {p : PVal} {x : V} {d : D} (h : RelP K Hs S L σ H p x) (e : rd L p = some d) : Vw K S H d x := by
  cases p with
  | imm d' => cases e; exact .inl h
  | loc i =>
    have e : (getL L i).map LVal.data = some d := e
    cases q : getL L i with
    | none => rw [q] at e; cases e
    | some v =>
      rw [q] at e
      cases e
      have q' := getL_some q
      have h' : σ[i]? = some (some x) := h
      cases v with
      | imm d =>
        obtain ⟨v, e1, e2⟩ := r.imm i d q'
        rw [h'] at e1
        cases e1
        exact .inl e2
      | own m =>
        obtain ⟨p, e1, _, e2⟩ := r.own i m q'
        rw [h'] at e1
        cases e1
        exact .inr ⟨p, m, rfl, e2, rfl⟩
  | own m =>
    cases e
    obtain ⟨p, e, _, _, _, h4⟩ := h
    exact .inr ⟨p, m, e, h4, rfl⟩
theorem Vw.int {i : Int} {x : V} (h : Vw K S H (.int i) x) : x = .int i := by
  rcases h with h | ⟨p, m, _, _, e⟩
  · cases h; rfl
  · cases m <;> cases e
theorem Vw.str {i : Str} {x : V} (h : Vw K S H (.str i) x) : x = .str i := by
  rcases h with h | ⟨p, m, _, _, e⟩
  · cases h; rfl
  · cases m <;> cases e
theorem Vw.bool {i : Bool} {x : V} (h : Vw K S H (.bool i) x) : x = .bl i := by
  rcases h with h | ⟨p, m, _, _, e⟩
  · cases h; rfl
  · cases m <;> cases e
theorem Vw.nn {x : V} (h : Vw K S H .none x) : x = .non := by
  rcases h with h | ⟨p, m, _, _, e⟩
  · cases h; rfl
  · cases m <;> cases e
theorem Vw.list {ds : List D} {x : V} (h : Vw K S H (.list ds) x) : ∃ p vs, x = .ref p ∧ SqL K H p vs ∧ RpA K S H ds vs := by
  rcases h with h | ⟨p, m, e0, o, e⟩
  · cases h with
    | lst k r => exact ⟨_, _, rfl, k.sq, r⟩
  · cases m with
    | lst es =>
      cases e
      obtain ⟨vs, q, r⟩ := o
      exact ⟨p, vs, e0, SqL.of q, r⟩
    | dic l => cases e
theorem Vw.tuple {ds : List D} {x : V} (h : Vw K S H (.tuple ds) x) : ∃ p vs, x = .ref p ∧ SqT K H p vs ∧ RpA K S H ds vs := by
  rcases h with h | ⟨p, m, e0, o, e⟩
  · cases h with
    | tup k r => exact ⟨_, _, rfl, k.sq, r⟩
  · cases m <;> cases e
theorem Vw.dict {l : List (D × D)} {x : V} (h : Vw K S H (.dict l) x) : ∃ p kvs, x = .ref p ∧ Rd H p (.dK kvs) ∧ l.map Prod.fst = kvs.map (fun p => keyD p.1) ∧ RpA K S H (l.map Prod.snd) (kvs.map Prod.snd) := by
  rcases h with h | ⟨p, m, e0, o, e⟩
  · cases h with
    | dic k r e q => exact ⟨_, _, rfl, r, e, q⟩
  · cases m with
    | lst es => cases e
    | dic l' =>
      cases e
      obtain ⟨kvs, q, e, r⟩ := o
      exact ⟨p, kvs, e0, .inl q, e, r⟩
theorem Vw.dp {d : D} {x : V} (h : Vw K S H d x) (c : d.canLay0 = true) : Dp K H x d := by
  rcases h with h | ⟨p, m, e0, o, e⟩
  · exact h.dp c
  · cases m with
    | lst es =>
      subst e
      obtain ⟨vs, q, r⟩ := o
      rw [e0]
      exact .lst (SqL.of q) (r.dp (by simpa only [MO.data, PyData.canLay0] using c))
    | dic l => subst e; simp [MO.data, PyData.canLay0] at c

/-! ### a new object, an object made data, a slot set -/
def plus (S : Ad) (p : Addr) : Ad := fun a => S a ∨ a = p
theorem ne_none {p a : Addr} {o : HO} (hp : H p = none) (e : H a = some o) : a ≠ p := by
  intro z; rw [z, hp] at e; cases e
theorem Nxt.alloc {p : Addr} {o : HO} (hp : H p = none) : Nxt ln L σ S H L σ S (upd H p o) :=
  ⟨fun _ h => h, fun _ h => .inl h, fun a _ e _ => by rw [upd_ne (ne_none hp e)]; exact e, fun a h => by
    by_cases z : a = p
    · rw [z, upd_same]; simp
    · rw [upd_ne z]; exact h, fun _ h => .inl h, fun _ => rfl⟩
theorem Rep.upd_new (r : Rep K S L σ H) {p : Addr} {o : HO} (hp : H p = none) : Rep K S L σ (upd H p o) := by
  have n : Nxt false L σ S H L σ S (upd H p o) := .alloc hp
  refine ⟨r.len, fun i d e => ?_, fun i m e => ?_, r.inj, fun a h => n.there a (r.trk a h)⟩
  · obtain ⟨v, h1, h2⟩ := r.imm i d e
    exact ⟨v, h1, h2.next n r⟩
  · obtain ⟨q, h1, h2, h3⟩ := r.own i m e
    exact ⟨q, h1, h2, h3.mono n.sub (n.stay r) fun o' e' => by rw [upd_ne (ne_none hp e')]; exact e'⟩
theorem Nxt.addS {p : Addr} (hp : H p = none ∨ OwnA L σ p) : Nxt ln L σ S H L σ (plus S p) H :=
  ⟨fun _ h => .inl h, fun a h => h.elim .inl fun z => by rw [z]; exact .inr hp, fun _ _ e _ => e, fun _ h => h, fun _ h => .inl h, fun _ => rfl⟩
theorem Rep.notS (r : Rep K S L σ H) {p : Addr} (hp : H p = none) : ¬ S p := fun z => r.trk p z hp
theorem Rep.addS (r : Rep K S L σ H) {p : Addr} (hp : ¬ OwnA L σ p) (hn : H p ≠ none) : Rep K (plus S p) L σ H :=
  ⟨r.len, fun i d e => let ⟨v, h1, h2⟩ := r.imm i d e; ⟨v, h1, h2.mono (fun _ h => .inl h) fun _ _ _ e => e⟩, fun i m e => by
    obtain ⟨q, h1, h2, h3⟩ := r.own i m e
    refine ⟨q, h1, fun z => z.elim h2 fun z => hp ⟨i, m, e, by rw [h1, z]⟩, h3.mono (fun _ h => .inl h) (fun _ _ _ e => e) fun _ e => e⟩, r.inj, fun a h => h.elim (r.trk a) fun z => by rw [z]; exact hn⟩
/-- a new object, data from the start -/
theorem Nxt.allocS {p : Addr} {o : HO} (hp : H p = none) : Nxt ln L σ S H L σ (plus S p) (upd H p o) :=
  ⟨fun _ h => .inl h, fun a h => h.elim .inl fun z => by rw [z]; exact .inr (.inl hp), (Nxt.alloc (ln := ln) (L := L) (σ := σ) (S := S) (o := o) hp).keep, (Nxt.alloc (ln := ln) (L := L) (σ := σ) (S := S) (o := o) hp).there, fun _ h => .inl h, fun _ => rfl⟩
theorem Rep.notNew (r : Rep K S L σ H) {p : Addr} (hp : H p = none) : ¬ OwnA L σ p := fun z => r.ownSome z hp
theorem Rep.allocS (r : Rep K S L σ H) {p : Addr} {o : HO} (hp : H p = none) : Rep K (plus S p) L σ (upd H p o) := (r.upd_new hp).addS (r.notNew hp) (by rw [upd_same]; simp)
theorem OwnR.rp {m : MO} {p : Addr} (h : OwnR K S H m p) : Rp K (plus S p) H m.data (.ref p) := by
  cases m with
  | lst ds =>
    obtain ⟨vs, e, r⟩ := h
    exact .lst (.inl ⟨.inr rfl, .inl e⟩) (r.mono (fun _ h => .inl h) fun _ _ _ e => e)
  | dic l =>
    obtain ⟨kvs, e, k, r⟩ := h
    exact .dic (.inr rfl) (.inl e) k (r.mono (fun _ h => .inl h) fun _ _ _ e => e)
end
end Fw

/-! the reading of a term: what the plain machine says of it -/
namespace Fw
open PySem PySem.Spec L2

structure Fx where
  K : PySem.W.Frag
  ln : Bool
  W : WX
  ca : Nat → Value
section
variable {F : Fx} {α β γ δ : Type} {σ : St}
abbrev RR (α β : Type) := Hp → Ad → Loc → Hp → α → β → Prop
/-- from the start H, L, S: what holds behind r -/
def Aft (F : Fx) (σ : St) (H : Hp) (L : Loc) (S : Ad) (r : Res α) (R : RR α β) (Q : β → Hp → Prop) : Prop := match r with
  | .ok a L' => ∀ S' H' b, Nxt F.ln L σ S H L' σ S' H' → Rep F.K S' L' σ H' → R H S' L' H' a b → Q b H'
  | .err c L' => ∀ S' H', Nxt F.ln L σ S H L' σ S' H' → Rep F.K S' L' σ H' → F.W (F.ca c) none σ H'
  | .bad => False
def Go (F : Fx) (f : Loc → Res α) (R : St → RR α β) : St → Hp → (β → Hp → Prop) → Prop := fun σ H Q => ∃ S L, Rep F.K S L σ H ∧ Aft F σ H L S (f L) (R σ) Q
def rE (F : Fx) : St → RR PVal V := fun σ Hs S L H p x => RelP F.K Hs S L σ H p x
def rId : St → RR α α := fun _ _ _ _ _ a b => a = b
abbrev RE (F : Fx) (f : FE) : TE := Go F f (rE F)
abbrev RT (F : Fx) (f : FT) : TT := Go F f rId

theorem Aft.bind {r : Res α} {g : α → Loc → Res γ} {R : RR γ δ} {Q : δ → Hp → Prop} {R1 : RR α β} {Y : β → Hp → Prop} {H H1 : Hp} {L L1 : Loc} {S S1 : Ad} (n0 : Nxt F.ln L σ S H L1 σ S1 H1) (h : Aft F σ H L S (r.bind g) R Q)
    (k : ∀ a L2 S2 H2 b, Nxt F.ln L σ S H L2 σ S2 H2 → Nxt F.ln L1 σ S1 H1 L2 σ S2 H2 → Rep F.K S2 L2 σ H2 → R1 H1 S2 L2 H2 a b → Aft F σ H L S (g a L2) R Q → Y b H2) : Aft F σ H1 L1 S1 r R1 Y := by
  cases r with
  | ok a L2 => exact fun S2 H2 b n rep rel => k a L2 S2 H2 b (n0.trans n) n rep rel h
  | err c L2 => exact fun S2 H2 n rep => h S2 H2 (n0.trans n) rep
  | bad => exact h
/-- the end here and now -/
theorem Aft.here {a : α} {R : RR α β} {Q : β → Hp → Prop} {H H1 : Hp} {L L1 : Loc} {S S1 : Ad} {b : β} (h : Aft F σ H L S (.ok a L1) R Q) (n : Nxt F.ln L σ S H L1 σ S1 H1) (rep : Rep F.K S1 L1 σ H1) (rel : R H S1 L1 H1 a b) : Q b H1 := h S1 H1 b n rep rel
theorem go1 {f : Loc → Res α} {g : α → Loc → Res γ} {R : St → RR γ δ} {R1 : St → RR α β} {Q : δ → Hp → Prop} {Y : β → Hp → Prop} {H : Hp} (h : Go F (fun L => (f L).bind g) R σ H Q)
    (k : ∀ S L a L2 S2 H2 b, Rep F.K S L σ H → Nxt F.ln L σ S H L2 σ S2 H2 → Rep F.K S2 L2 σ H2 → R1 σ H S2 L2 H2 a b → Aft F σ H L S (g a L2) (R σ) Q → Y b H2) : Go F f R1 σ H Y := by
  obtain ⟨S, L, rep, h⟩ := h
  exact ⟨S, L, rep, Aft.bind .refl h fun a L2 S2 H2 b _ n rep2 rel h2 => k S L a L2 S2 H2 b rep n rep2 rel h2⟩
theorem go2 {f : Loc → Res α} {r : α → Loc → Res γ} {R1 : St → RR α β} {Y : β → Hp → Prop} {R : RR γ δ} {Q : δ → Hp → Prop} {H H1 : Hp} {L L1 : Loc} {S S1 : Ad} (n0 : Nxt F.ln L σ S H L1 σ S1 H1) (rep1 : Rep F.K S1 L1 σ H1) (h : Aft F σ H L S ((f L1).bind r) R Q)
    (k : ∀ a L2 S2 H2 b, Nxt F.ln L σ S H L2 σ S2 H2 → Nxt F.ln L1 σ S1 H1 L2 σ S2 H2 → Rep F.K S2 L2 σ H2 → R1 σ H1 S2 L2 H2 a b → Aft F σ H L S (r a L2) R Q → Y b H2) : Go F f R1 σ H1 Y :=
  ⟨S1, L1, rep1, Aft.bind n0 h k⟩
end

/-- a reading may be weakened -/
theorem _root_.L2.PE.imp {X : Cx} {e : Expr} {t t' : TE} (h : PE X e t) (i : ∀ σ H Q, t' σ H Q → t σ H Q) : PE X e t' := ⟨fun pins s σ H Q I q => h.run pins s σ H Q I (i σ H Q q)⟩
theorem _root_.L2.PT.imp {X : Cx} {e : Expr} {t t' : TT} (h : PT X e t) (i : ∀ σ H Q, t' σ H Q → t σ H Q) : PT X e t' := ⟨fun pins s σ H Q I q => h.run pins s σ H Q I (i σ H Q q)⟩
theorem _root_.L2.PW.imp {X : Cx} {e : Expr} {t t' : TT} (h : PW X e t) (i : ∀ σ H Q, t' σ H Q → t σ H Q) : PW X e t' := ⟨fun wh pins s σ H Q I q => h.run wh pins s σ H Q I (i σ H Q q)⟩
theorem _root_.L2.PA.imp {X : Cx} {e : List Expr} {t t' : TA} (h : PA X e t) (i : ∀ σ H Q, t' σ H Q → t σ H Q) : PA X e t' := ⟨fun pos pins s σ H Q I q => h.run pos pins s σ H Q I (i σ H Q q)⟩
theorem _root_.L2.PS.imp {X : Cx} {e : Stmt} {t t' : TS} (h : PS X e t) (i : ∀ D σ H, t' D σ H → t D σ H) : PS X e t' := ⟨fun pins s σ H Q I q => h.run pins s σ H Q I (i Q σ H q)⟩
theorem _root_.L2.PSs.imp {X : Cx} {e : List Stmt} {t t' : TS} (h : PSs X e t) (i : ∀ D σ H, t' D σ H → t D σ H) : PSs X e t' := ⟨fun pins s σ H Q I q => h.run pins s σ H Q I (i Q σ H q)⟩
theorem _root_.L2.PC.imp {X : Cx} {op : CmpOp} {a b : Expr} {t t' : TE} (h : PC X op a b t) (i : ∀ σ H Q, t' σ H Q → t σ H Q) : PC X op a b t' := ⟨fun pins s σ H Q I q => h.run pins s σ H Q I (i σ H Q q)⟩
theorem _root_.L2.PC.or {X : Cx} {op : CmpOp} {a b : Expr} {t t' : TE} (h : PC X op a b t) (h' : PC X op a b t') : PC X op a b (fun σ H Q => t σ H Q ∨ t' σ H Q) :=
  ⟨fun pins s σ H Q I q => q.elim (h.run pins s σ H Q I) (h'.run pins s σ H Q I)⟩
theorem _root_.L2.PE.or {X : Cx} {e : Expr} {t t' : TE} (h : PE X e t) (h' : PE X e t') : PE X e (fun σ H Q => t σ H Q ∨ t' σ H Q) := ⟨fun pins s σ H Q I q => q.elim (h.run pins s σ H Q I) (h'.run pins s σ H Q I)⟩
theorem _root_.L2.PS.or {X : Cx} {e : Stmt} {t t' : TS} (h : PS X e t) (h' : PS X e t') : PS X e (fun D σ H => t D σ H ∨ t' D σ H) := ⟨fun pins s σ H Q I q => q.elim (h.run pins s σ H Q I) (h'.run pins s σ H Q I)⟩
theorem _root_.L2.PI.or {X : Cx} {tg e : Expr} {t t' : TI} (h : PI X tg e t) (h' : PI X tg e t') : PI X tg e (fun σ H Q => t σ H Q ∨ t' σ H Q) := ⟨fun pins s σ H Q I q => q.elim (h.run pins s σ H Q I) (h'.run pins s σ H Q I)⟩
theorem _root_.L2.PI.imp {X : Cx} {tg e : Expr} {t t' : TI} (h : PI X tg e t) (i : ∀ σ H Q, t' σ H Q → t σ H Q) : PI X tg e t' := ⟨fun pins s σ H Q I q => h.run pins s σ H Q I (i σ H Q q)⟩
theorem pc_op {X : Cx} {op : CmpOp} {r : R2} {a b : Expr} {ta tb : TE} (ho : OpR X (compareOp op) r) (ha : PE X a ta) (hb : PE X b tb) : PC X op a b (tOp r ta tb) := by
  refine ⟨fun pins s σ H Q I h => ?_⟩
  refine thn (ha.run pins s σ H _ I h) fun v s1 ⟨x, H1, I1, r1, q1⟩ => thn (hb.run pins s1 σ H1 _ I1 q1) fun u s2 ⟨y, H2, I2, r2, q2⟩ => ?_
  exact ho pins s2 σ H2 x y v u Q I2 r1 r2 q2

/-! ### two operands -/
section
variable {F : Fx} {K : PySem.W.Frag}
/-- the rule r does what k says of data -/
def OpS (K : PySem.W.Frag) (r : R2) (k : D → D → Option PVal) : Prop := ∀ (S : Ad) (L : Loc) (σ : St) (H : Hp) (d e : D) (x y : V) (z : PVal) (Q : VK), Rep K S L σ H → Vw K S H d x → Vw K S H e y → k d e = some z →
  (∀ S' H' v, (∀ ln, Nxt ln L σ S H L σ S' H') → Rep K S' L σ H' → RelP K H S' L σ H' z v → Q v H') → r x y H Q
theorem OpS.or {r r' : R2} {k k1 k2 : D → D → Option PVal} (h : OpS K r k1) (h' : OpS K r' k2) (hk : ∀ d e z, k d e = some z → k1 d e = some z ∨ k2 d e = some z) : OpS K (fun x y H Q => r x y H Q ∨ r' x y H Q) k :=
  fun S L σ H d e x y z Q rep hx hy e1 q => (hk d e z e1).elim (fun e2 => .inl (h S L σ H d e x y z Q rep hx hy e2 q)) fun e2 => .inr (h' S L σ H d e x y z Q rep hx hy e2 q)
theorem RelP.back {S : Ad} {L : Loc} {σ : St} {H H0 H1 : Hp} {p : PVal} {x : V} (h : RelP K H1 S L σ H p x) (b : ∀ a, H0 a ≠ none → H1 a ≠ none) : RelP K H0 S L σ H p x := by
  cases p with
  | imm d => exact h
  | loc i => exact h
  | own m =>
    obtain ⟨q, e, h1, h2, h3, h4⟩ := h
    refine ⟨q, e, h1, h2, ?_, h4⟩
    cases z : H0 q with
    | none => rfl
    | some o => exact absurd h3 (b q (by rw [z]; simp))
theorem two_ok {α β : Type} {f g : FE} {k : D → D → Loc → Res α} {R : St → RR α β} {r : TE → TE → (St → Hp → (β → Hp → Prop) → Prop)} {op : V → V → Hp → (β → Hp → Prop) → Prop} (hr : ∀ ta tb σ H Q, (ta σ H fun x H1 => tb σ H1 fun y H2 => op x y H2 Q) → r ta tb σ H Q)
    (h : ∀ (S0 : Ad) (L0 : Loc) (H0 : Hp) (S : Ad) (L : Loc) (σ : St) (H : Hp) (d e : D) (x y : V) (Q : β → Hp → Prop), Nxt F.ln L0 σ S0 H0 L σ S H → Rep F.K S L σ H → Vw F.K S H d x → Vw F.K S H e y → Aft F σ H0 L0 S0 (k d e L) (R σ) Q → op x y H Q)
    (σ : St) (H : Hp) (Q : β → Hp → Prop) (q : Go F (twoF f g k) R σ H Q) : r (RE F f) (RE F g) σ H Q := by
  refine hr _ _ _ _ _ (go1 q fun S L p L1 S1 H1 x rep n1 rep1 rel1 h1 => ?_)
  refine go2 n1 rep1 h1 fun p2 L2 S2 H2 y n2 n12 rep2 rel2 h2 => ?_
  have rel1' : RelP F.K H S2 L2 σ H2 p x := RelP.next n12 rep1 rel1
  cases e1 : rd L2 p with
  | none => simp only [e1] at h2; exact h2.elim
  | some d =>
    cases e2 : rd L2 p2 with
    | none => simp only [e1, e2] at h2; exact h2.elim
    | some e =>
      simp only [e1, e2] at h2
      exact h S L H S2 L2 σ H2 d e x y Q n2 rep2 (rep2.view rel1' e1) (rep2.view rel2 e2) h2
theorem op_res {S0 S : Ad} {L0 L : Loc} {H0 H : Hp} {σ : St} {z : PVal} {Q : VK} (n : Nxt F.ln L0 σ S0 H0 L σ S H) (h : Aft F σ H0 L0 S0 (.ok z L) (rE F σ) Q) :
    ∀ S' H' v, (∀ ln, Nxt ln L σ S H L σ S' H') → Rep F.K S' L σ H' → RelP F.K H S' L σ H' z v → Q v H' := fun S' H' v n' rep rel => h S' H' v (n.trans (n' _)) rep (rel.back n.there)
theorem re_bin {X : Cx} {op : BOp} {o : Operator} {r : R2} {a b : Expr} {pos : Pos} {f g : FE} (ho : OpR X (binaryOp o) r) (hs : OpS F.K r (opB op)) (ha : PE X a (RE F f)) (hb : PE X b (RE F g)) : PE X (.BinOp a o b pos) (RE F (binF op f g)) := by
  refine (pe_op ho ha hb).imp (two_ok (R := rE F) (r := fun ta tb => tOp r ta tb) (op := r) (fun _ _ _ _ _ h => h) ?_)
  intro S0 L0 H0 S L σ H d e x y Q n rep hx hy h
  cases e1 : opB op d e with
  | none => simp only [e1, ofOpt] at h; exact h.elim
  | some z =>
    simp only [e1, ofOpt] at h
    exact hs S L σ H d e x y z Q rep hx hy e1 (op_res n h)
/-- comparisons -/
def CpS (K : PySem.W.Frag) (r : R2) (k : D → D → Option Bool) : Prop := ∀ (S : Ad) (L : Loc) (σ : St) (H : Hp) (d e : D) (x y : V) (b : Bool) (Q : VK), Rep K S L σ H → Vw K S H d x → Vw K S H e y → k d e = some b → Q (.bl b) H → r x y H Q
theorem CpS.or {r r' : R2} {k k1 k2 : D → D → Option Bool} (h : CpS K r k1) (h' : CpS K r' k2) (hk : ∀ d e z, k d e = some z → k1 d e = some z ∨ k2 d e = some z) : CpS K (fun x y H Q => r x y H Q ∨ r' x y H Q) k :=
  fun S L σ H d e x y z Q rep hx hy e1 q => (hk d e z e1).elim (fun e2 => .inl (h S L σ H d e x y z Q rep hx hy e2 q)) fun e2 => .inr (h' S L σ H d e x y z Q rep hx hy e2 q)
theorem rc_cmp {X : Cx} {op : COp} {o : CmpOp} {r : R2} {a b : Expr} {f g : FE} (ho : OpR X (compareOp o) r) (hs : CpS F.K r (opC op)) (ha : PE X a (RE F f)) (hb : PE X b (RE F g)) : PC X o a b (RE F (cmpF op f g)) := by
  refine (pc_op ho ha hb).imp (two_ok (R := rE F) (r := fun ta tb => tOp r ta tb) (op := r) (fun _ _ _ _ _ h => h) ?_)
  intro S0 L0 H0 S L σ H d e x y Q n rep hx hy h
  cases e1 : opC op d e with
  | none => simp only [e1, ofOpt, Option.map] at h; exact h.elim
  | some z =>
    simp only [e1, ofOpt, Option.map] at h
    exact hs S L σ H d e x y z Q rep hx hy e1 (h.here n rep (.bl z))
theorem rt_of {X : Cx} {op : COp} {o : CmpOp} {a b : Expr} {pos : Pos} {f g : FE} (h : PC X o a b (RE F (cmpF op f g))) (hm : behindInMarks o b = false) : PT X (.Compare a [o] [b] pos) (RT F (cmpT op f g)) := by
  refine (pt_cmp h hm).imp fun σ H Q q => ?_
  obtain ⟨S, L, rep, q⟩ := q
  refine ⟨S, L, rep, ?_⟩
  unfold cmpT twoF at q
  unfold cmpF twoF
  cases e1 : f L with
  | bad => simp only [e1, Res.bind] at q; exact q.elim
  | err c L1 => simp only [e1, Res.bind] at q ⊢; exact q
  | ok p L1 =>
    simp only [e1, Res.bind] at q ⊢
    cases e2 : g L1 with
    | bad => simp only [e2] at q; exact q.elim
    | err c L2 => simp only [e2] at q ⊢; exact q
    | ok p2 L2 =>
      simp only [e2] at q ⊢
      cases e3 : rd L2 p with
      | none => simp only [e3] at q; exact q.elim
      | some d =>
        cases e4 : rd L2 p2 with
        | none => simp only [e3, e4] at q; exact q.elim
        | some e =>
          simp only [e3, e4] at q ⊢
          cases e5 : opC op d e with
          | none => simp only [e5, ofOpt] at q; exact q.elim
          | some z =>
            simp only [e5, ofOpt, Option.map] at q ⊢
            intro S' H' v n rep rel
            cases rel
            exact ⟨z, rfl, q S' H' z n rep rfl⟩
end
end Fw

/-! what the operators do, by data -/
namespace Fw
open PySem PySem.Spec L2
section
variable {X : Cx}
/-- list + list, wherever they stand -/
def rCatS (K : PySem.W.Frag) : R2 := fun x y H Q => ∃ l b xs zs, x = .ref l ∧ y = .ref b ∧ SqL K H l xs ∧ SqL K H b zs ∧ xs.length + zs.length ≤ sizeLine ∧ ∀ p, H p = none → Q (.ref p) (upd H p (.lst (xs ++ zs)))
theorem op_catS : OpR X (binaryOp .Add) (rCatS X.K) := by
  intro pins s σ H x y v u Q I rx ry h
  obtain ⟨l, b, xs, zs, rfl, rfl, hH, hB, hz, q⟩ := h
  cases rx
  cases ry
  obtain ⟨its, r, p, _⟩ := I.list hH
  obtain ⟨its2, r2, p2, _⟩ := I.list hB
  obtain ⟨⟨cls, dd, data, sl⟩, ho, hc, n, hd⟩ := id p.isList
  obtain ⟨⟨cls2, dd2, data2, sl2⟩, ho2, hc2, n2, hd2⟩ := id p2.isList
  simp only at hc hd hc2 hd2
  subst hc hd hc2 hd2
  have e : its.toArray ++ its2.toArray = (its ++ its2).toArray := by simp
  have e1 := r.length
  have e2 := r2.length
  refine concat_meets ⟨_, ho, rfl⟩ ⟨_, ho2, rfl⟩ noFill_list_add seq_list_add PySem.F.slot_list_add PySem.F.entry_list_add (PySem.F.args_list_add_2 _ _)
    (PyProof.Rows.list_addW l b its.toArray its2.toArray n n2 dd dd2 sl sl2 (by rw [List.size_toArray, List.size_toArray]; omega)) ⟨ho, ho2, ?_⟩
  rw [e]
  exact ⟨.ref _, _, I.lnew (t' := s.toks) (r.append r2) (by rw [List.length_append]; omega), rfl, q _ I.fresh⟩
theorem list_mulW (l : Addr) (items : Array Value) (n : Nat) (dd : Option Addr) (sl : Array (Option Value)) (x : Int) (u : Tok) (hc0 : ¬(!Builtin.List.listFitsIndex x) = true) (hc1 : ¬items.size * x.toNat > (2 ^ 63 - 1) / 8) (hc2 : ¬Builtin.List.listTooLong (items.size * x.toNat) = true) :
    Meets (Builtin.«list.__mul__» ⟨[.ref l, .int x u], []⟩) (fun _ R s => s.heap.get? l = some { cls := .type "list", dict := dd, data := .seq items n, slots := sl } ∧ R (.ok (.ret (Value.ref s.heap.objs.size))) { s with heap := s.heap.push { cls := Value.type "list", data := Data.seq (List.foldl (fun x1 x2 => x1 ++ x2) #[] (List.replicate (if items.isEmpty = true then 0 else x.toNat) items)) }, toks := s.toks }) :=
  .of_wp fun prog w A R s h => by
    obtain ⟨hp, g, d, tk, os⟩ := s; obtain ⟨hl, h⟩ := h
    have hsz := AutoListH.joined_fits hc2
    wp_walk using wpAny_loadPart' hl; refine wpAny_ite_false (decide_eq_false (Nat.not_lt.mpr hsz)) ?_; wp_walk; exact ⟨_, rfl, h⟩
theorem int_rmul_listW (a : Int) (t : Tok) (l : Addr) (items : Array Value) (n : Nat) (dd : Option Addr) (sl : Array (Option Value)) :
    Meets (Builtin.«int.__rmul__» ⟨[.int a t, .ref l], []⟩) (fun _ R s => s.heap.get? l = some { cls := .type "list", dict := dd, data := .seq items n, slots := sl } ∧ R (.ok (.ret Value.notImplemented)) s) :=
  .of_wp fun prog w A R s h => by obtain ⟨hp, g, d, tk, os⟩ := s; obtain ⟨hl, h⟩ := h; wp_walk using wpAny_loadPart' hl; exact ⟨_, rfl, h⟩
def rRepS (K : PySem.W.Frag) : R2 := fun x y H Q => ∃ l k xs, x = .ref l ∧ y = .int k ∧ SqL K H l xs ∧ -(2 ^ 63) ≤ k ∧ k < 2 ^ 63 ∧ xs.length * k.toNat ≤ sizeLine ∧
  ∀ p, H p = none → Q (.ref p) (upd H p (.lst (List.replicate k.toNat xs).flatten))
theorem op_repS : OpR X (binaryOp .Mult) (rRepS X.K) := by
  intro pins s σ H x y v u Q I rx ry h
  obtain ⟨l, k, xs, rfl, rfl, hH, h1, h2, hz, q⟩ := h
  cases rx
  obtain ⟨t, rfl⟩ := ry
  obtain ⟨its, r, pl, _⟩ := I.list hH
  have hl := r.length
  obtain ⟨⟨cls, dd, data, sl⟩, e, hc, n, hd⟩ := id pl.isList
  simp only at hc hd
  subst hc hd
  have hlen : its.toArray.size * k.toNat ≤ sizeLine := by rw [List.size_toArray, ← hl]; exact hz
  have hcap : ¬ its.toArray.size * k.toNat > (2 ^ 63 - 1) / 8 := by
    have : (sizeLine : Nat) ≤ (2 ^ 63 - 1) / 8 := by decide
    omega
  have hfit : ¬ (!Builtin.List.listFitsIndex k) = true := by
    rw [fitsIndex_both h1 h2]
    exact Bool.false_ne_true
  have hlong : ¬ Builtin.List.listTooLong (its.toArray.size * k.toNat) = true := by
    rw [notLongL hlen]
    exact Bool.false_ne_true
  have hnew : List.foldl (fun x1 x2 => x1 ++ x2) #[] (List.replicate (if its.toArray.isEmpty = true then 0 else k.toNat) its.toArray) = (List.replicate k.toNat its).flatten.toArray := by
    have f0 : ∀ m : Nat, List.foldl (fun x1 x2 => x1 ++ x2) #[] (List.replicate m its.toArray) = (List.replicate m its).flatten.toArray := fun m => by
      have := foldl_rep its m []
      rw [List.nil_append] at this
      exact this
    rw [f0]
    cases its with
    | nil => simp
    | cons a r' => rw [if_neg (by simp)]
  refine wpAny_binaryOp_repeat_ref (T := "list") (U := "int") (by decide) ⟨_, e, rfl⟩ (fun s' => typeIs_int s' k t) noFill_list_mul PySem.F.fills_int_mul PySem.F.slot_int_rmul repeat_list PySem.F.slot_int_index.lookup
    (call_meets PySem.F.slot_int_rmul (typeIs_int s k t) PySem.F.entry_int_rmul (PySem.F.args_int_rmul_2 _ _) (int_rmul_listW k t l its.toArray n dd sl)
      ⟨e, rfl, ⟨_, e, rfl⟩, call_meets PySem.F.slot_list_mul ⟨_, e, rfl⟩ PySem.F.entry_list_mul (PySem.F.args_list_mul_2 _ _) (list_mulW l its.toArray n dd sl k t hfit hcap hlong) ⟨e, ?_⟩⟩)
  rw [hnew]
  exact ⟨.ref _, _, I.lnew (t' := s.toks) (r.rep k.toNat) (by rw [PyProof.Rows.lm_len_rep_flat, Nat.mul_comm]; exact hz), rfl, q _ I.fresh⟩
end

/-! ### each operator keeps to its data -/
theorem line_eq : line = sizeLine := by rw [sizeLine_eq]; rfl
section
variable {K : PySem.W.Frag}
/-- a result that is no object -/
theorem res_flat {S : Ad} {L : Loc} {σ : St} {H : Hp} {z : PVal} {v : V} {Q : VK} (rep : Rep K S L σ H) (q : ∀ S' H' v, (∀ ln, Nxt ln L σ S H L σ S' H') → Rep K S' L σ H' → RelP K H S' L σ H' z v → Q v H') (r : RelP K H S L σ H z v) : Q v H :=
  q S H v (fun _ => .refl) rep r
/-- a new list -/
theorem res_list {S : Ad} {L : Loc} {σ : St} {H : Hp} {ds : List D} {vs : List V} {Q : VK} (rep : Rep K S L σ H) (q : ∀ S' H' v, (∀ ln, Nxt ln L σ S H L σ S' H') → Rep K S' L σ H' → RelP K H S' L σ H' (.own (.lst ds)) v → Q v H')
    (r : RpA K S H ds vs) : ∀ p, H p = none → Q (.ref p) (upd H p (.lst vs)) := fun p hp =>
  q S _ _ (fun _ => .alloc hp) (rep.upd_new hp) ⟨p, rfl, rep.notS hp, rep.notNew hp, hp, vs, upd_same, r.next (ln := false) (.alloc hp) rep⟩
/-- a new tuple -/
theorem res_tup {S : Ad} {L : Loc} {σ : St} {H : Hp} {ds : List D} {vs : List V} {Q : VK} (rep : Rep K S L σ H) (q : ∀ S' H' v, (∀ ln, Nxt ln L σ S H L σ S' H') → Rep K S' L σ H' → RelP K H S' L σ H' (.imm (.tuple ds)) v → Q v H')
    (r : RpA K S H ds vs) : ∀ p, H p = none → Q (.ref p) (upd H p (.tup vs)) := fun p hp =>
  q _ _ _ (fun _ => .allocS hp) (rep.allocS hp) (.tup (.inl ⟨.inr rfl, .inl upd_same⟩) (r.next (ln := false) (.allocS hp) rep))
theorem RpA.nil_iff {S : Ad} {H : Hp} {ds : List D} {vs : List V} (r : RpA K S H ds vs) : vs = [] ↔ ds = [] := by cases r <;> simp
theorem RpA.toTup {S : Ad} {H : Hp} {ds : List D} {x : V} (r : Rp K S H (.tuple ds) x) : ∃ p vs, x = .ref p ∧ SqT K H p vs ∧ RpA K S H ds vs := by
  cases r with
  | tup k r => exact ⟨_, _, rfl, k.sq, r⟩
abbrev rAddG (K : PySem.W.Frag) : R2 := fun x y H Q => ((rI0 fun i j => .int (i + j)) x y H Q ∨ (fun x y H Q => ∃ i j, x = .str i ∧ y = .str j ∧ i.length + j.length ≤ sizeLine ∧ Q (.str (i ++ j)) H : R2) x y H Q) ∨ (rCatS K x y H Q ∨ rCatA K x y H Q)
theorem op_addG {X : Cx} : OpR X (binaryOp .Add) (rAddG X.K) := (op_add.or op_add_str).or (op_catS.or op_catA)
theorem Vw.tupRp {S : Ad} {H : Hp} {ds : List D} {x : V} (h : Vw K S H (.tuple ds) x) : Rp K S H (.tuple ds) x := by
  rcases h with h | ⟨p, m, _, _, e⟩
  · exact h
  · cases m <;> cases e
theorem sp_add : OpS K (rAddG K) opAdd := by
  intro S L σ H d e x y z Q rep hx hy h q
  unfold opAdd at h
  split at h
  · rename_i i j
    cases h
    exact .inl (.inl ⟨i, j, hx.int, hy.int, res_flat rep q (.int _)⟩)
  · rename_i i j
    split at h
    · rename_i hz
      cases h
      exact .inl (.inr ⟨i, j, hx.str, hy.str, hz, res_flat rep q (.str _)⟩)
    · cases h
  · rename_i ds es
    split at h
    · rename_i hz
      cases h
      obtain ⟨a, vs, e1, h1, r1⟩ := hx.list
      obtain ⟨b, ws, e2, h2, r2⟩ := hy.list
      have l1 := r1.length
      have l2 := r2.length
      refine .inr (.inl ⟨a, b, vs, ws, e1, e2, h1, h2, ?_, res_list rep q (r1.append r2)⟩)
      rw [line_eq] at hz
      omega
    · cases h
  · rename_i ds es
    split at h
    · rename_i hz
      cases h
      have t1 := hx.tupRp
      have t2 := hy.tupRp
      obtain ⟨a, vs, e1, h1, r1⟩ := hx.tuple
      obtain ⟨b, ws, e2, h2, r2⟩ := hy.tuple
      have l1 := r1.length
      have l2 := r2.length
      refine .inr (.inr ⟨a, b, vs, ws, e1, e2, h1, h2, ?_, fun z => ?_, fun _ z => ?_, fun _ _ => res_tup rep q (r1.append r2)⟩)
      · rw [line_eq] at hz
        omega
      · rw [r1.nil_iff] at z
        subst z
        rw [← e2]
        exact res_flat rep q t2
      · rw [r2.nil_iff] at z
        subst z
        rw [List.append_nil] at q
        rw [← e1]
        exact res_flat rep q t1
    · cases h
  · cases h
theorem sp_sub : OpS K (rI0 fun i j => .int (i - j)) opSub := by
  intro S L σ H d e x y z Q rep hx hy h q
  unfold opSub at h
  split at h
  · rename_i i j
    cases h
    exact ⟨i, j, hx.int, hy.int, res_flat rep q (.int _)⟩
  · cases h
theorem sp_mul : OpS K (fun x y H Q => (rI CMulW fun i j => .int (i * j)) x y H Q ∨ rRepS K x y H Q) opMul := by
  intro S L σ H d e x y z Q rep hx hy h q
  unfold opMul at h
  split at h
  · rename_i i j
    split at h
    · rename_i hz
      cases h
      exact .inl ⟨i, j, hx.int, hy.int, by simpa [wideMul, CMulW] using hz, res_flat rep q (.int _)⟩
    · cases h
  · rename_i ds k
    split at h
    · rename_i hz
      cases h
      obtain ⟨a, vs, e1, h1, r1⟩ := hx.list
      have l1 := r1.length
      refine .inr ⟨a, k, vs, e1, hy.int, h1, by omega, by omega, ?_, res_list rep q (r1.rep k.toNat)⟩
      rw [line_eq] at hz
      rw [← l1]
      exact hz.2
    · cases h
  · cases h
theorem sp_fdiv : OpS K (fun x y H Q => (rI CDivW fun i j => .int (i / j)) x y H Q ∨ (rI CDivN fun i j => .int (i.fdiv j)) x y H Q) opFdiv := by
  intro S L σ H d e x y z Q rep hx hy h q
  unfold opFdiv at h
  split at h
  · rename_i i j
    split at h
    · rename_i hz
      cases h
      unfold okDiv at hz
      rw [Bool.or_eq_true] at hz
      rcases hz with hz | hz
      · simp only [Bool.and_eq_true, decide_eq_true_eq, Nat.blt_eq] at hz
        refine .inl ⟨i, j, hx.int, hy.int, hz, ?_⟩
        have e : i.fdiv j = i / j := Int.fdiv_eq_ediv_of_nonneg i (by omega)
        rw [e] at q
        exact res_flat rep q (.int _)
      · simp only [Bool.and_eq_true, Bool.not_eq_true', decide_eq_false_iff_not, Nat.blt_eq] at hz
        exact .inr ⟨i, j, hx.int, hy.int, hz, res_flat rep q (.int _)⟩
    · cases h
  · cases h
theorem sp_mod : OpS K (rI (fun _ j => j ≠ 0) fun i j => .int (i.fmod j)) opMod := by
  intro S L σ H d e x y z Q rep hx hy h q
  unfold opMod at h
  split at h
  · rename_i i j
    split at h
    · cases h
    · rename_i hz
      cases h
      exact ⟨i, j, hx.int, hy.int, hz, res_flat rep q (.int _)⟩
  · cases h
theorem sp_pow : OpS K (rI CPow fun i j => .int (i ^ j.toNat)) opPow := by
  intro S L σ H d e x y z Q rep hx hy h q
  unfold opPow at h
  split at h
  · rename_i i j
    split at h
    · rename_i hz
      cases h
      exact ⟨i, j, hx.int, hy.int, hz, res_flat rep q (.int _)⟩
    · cases h
  · cases h
def bopOf : BOp → Operator
  | .add => .Add
  | .sub => .Sub
  | .mul => .Mult
  | .fdiv => .FloorDiv
  | .mod => .Mod
  | .pow => .Pow
theorem op_all {X : Cx} (op : BOp) : ∃ r, OpR X (binaryOp (bopOf op)) r ∧ OpS X.K r (opB op) := by
  cases op with
  | add => exact ⟨_, op_addG, sp_add⟩
  | sub => exact ⟨_, op_sub, sp_sub⟩
  | mul => exact ⟨_, op_mulW.or op_repS, sp_mul⟩
  | fdiv => exact ⟨_, op_fdivW.or op_fdivN, sp_fdiv⟩
  | mod => exact ⟨_, op_modN, sp_mod⟩
  | pow => exact ⟨_, op_pow, sp_pow⟩
/-! comparisons -/
theorem sh_int (i : Int) : SeqAt.shaped (.int i) = true := by simp [SeqAt.shaped, PyData.canLay0, PyData.depth]
theorem sh_none : SeqAt.shaped .none = true := by simp [SeqAt.shaped, PyData.canLay0, PyData.depth]
theorem eqD_sound {d e : D} {b : Bool} (h : eqD d e = some b) : SeqAt.shaped d = true ∧ SeqAt.shaped e = true ∧ PyData.eqv d e = b := by
  unfold eqD at h
  split at h
  · cases h
    exact ⟨sh_int _, sh_int _, by simp only [PyData.eqv]⟩
  · cases h
    exact ⟨sh_none, sh_none, by simp only [PyData.eqv]⟩
  · split at h
    · rename_i hz
      rw [Bool.and_eq_true] at hz
      cases h
      exact ⟨hz.1, hz.2, rfl⟩
    · cases h
theorem cp_eq : CpS K (rEqD K) (opC .eq) := by
  intro S L σ H d e x y b Q rep hx hy h q
  obtain ⟨h1, h2, h3⟩ := eqD_sound (show eqD d e = some b from h)
  exact ⟨d, e, hx.dp (SeqAt.canLay_of_shaped h1), hy.dp (SeqAt.canLay_of_shaped h2), h1, h2, by rw [h3]; exact q⟩
theorem cp_ne : CpS K (rNeD K) (opC .ne) := by
  intro S L σ H d e x y b Q rep hx hy h q
  have h : (eqD d e).map not = some b := h
  cases z : eqD d e with
  | none => rw [z] at h; cases h
  | some c =>
    rw [z] at h
    cases h
    obtain ⟨h1, h2, h3⟩ := eqD_sound z
    exact ⟨d, e, hx.dp (SeqAt.canLay_of_shaped h1), hy.dp (SeqAt.canLay_of_shaped h2), h1, h2, by rw [h3]; exact q⟩
theorem ltD_sound {d e : D} {b : Bool} (h : ltD d e = some b) : ∃ i j, d = .int i ∧ e = .int j ∧ b = decide (i < j) := by
  unfold ltD at h
  split at h
  · cases h; exact ⟨_, _, rfl, rfl, rfl⟩
  · cases h
theorem leD_sound {d e : D} {b : Bool} (h : leD d e = some b) : ∃ i j, d = .int i ∧ e = .int j ∧ b = decide (i ≤ j) := by
  unfold leD at h
  split at h
  · cases h; exact ⟨_, _, rfl, rfl, rfl⟩
  · cases h
theorem cp_lt : CpS K (rI0 fun i j => .bl (decide (i < j))) (opC .lt) := by
  intro S L σ H d e x y b Q rep hx hy h q
  obtain ⟨i, j, rfl, rfl, rfl⟩ := ltD_sound (show ltD d e = some b from h)
  exact ⟨i, j, hx.int, hy.int, q⟩
theorem cp_le : CpS K (rI0 fun i j => .bl (decide (i ≤ j))) (opC .le) := by
  intro S L σ H d e x y b Q rep hx hy h q
  obtain ⟨i, j, rfl, rfl, rfl⟩ := leD_sound (show leD d e = some b from h)
  exact ⟨i, j, hx.int, hy.int, q⟩
theorem cp_gt : CpS K (rI0 fun i j => .bl (decide (j < i))) (opC .gt) := by
  intro S L σ H d e x y b Q rep hx hy h q
  obtain ⟨i, j, rfl, rfl, rfl⟩ := ltD_sound (show ltD e d = some b from h)
  exact ⟨j, i, hx.int, hy.int, q⟩
theorem cp_ge : CpS K (rI0 fun i j => .bl (decide (j ≤ i))) (opC .ge) := by
  intro S L σ H d e x y b Q rep hx hy h q
  obtain ⟨i, j, rfl, rfl, rfl⟩ := leD_sound (show leD e d = some b from h)
  exact ⟨j, i, hx.int, hy.int, q⟩
theorem Vw.non_iff {S : Ad} {H : Hp} {d : D} {x : V} (h : Vw K S H d x) : decide (x = .non) = isNone d := by
  rcases h with h | ⟨p, m, e0, _, e⟩
  · cases h <;> rfl
  · subst e0 e
    cases m <;> rfl
theorem cp_isN : CpS K (fun x y H Q => y = .non ∧ Q (.bl (decide (x = .non))) H) (opC .isN) := by
  intro S L σ H d e x y b Q rep hx hy h q
  cases e <;> simp only [opC] at h <;> try (cases h)
  exact ⟨hy.nn, by rw [hx.non_iff]; exact q⟩
theorem cp_notN : CpS K (fun x y H Q => y = .non ∧ Q (.bl (!decide (x = .non))) H) (opC .notN) := by
  intro S L σ H d e x y b Q rep hx hy h q
  cases e <;> simp only [opC] at h <;> try (cases h)
  exact ⟨hy.nn, by rw [hx.non_iff]; exact q⟩
end
end Fw

/-! expressions: each form keeps to its reading -/
namespace Fw
open PySem PySem.Spec L2
section
variable {F : Fx} {K : PySem.W.Frag} {X : Cx}

/-! ### slots made data -/
theorem own_set {L : Loc} {σ : St} {i : Nat} {d : D} {a : Addr} (h : OwnA (L.set i (some (.imm d))) σ a) : OwnA L σ a := by
  obtain ⟨j, m, e1, e2⟩ := h
  by_cases z : i = j
  · subst z
    by_cases hl : i < L.length
    · rw [List.getElem?_set_self hl] at e1; cases e1
    · rw [List.getElem?_eq_none (by rw [List.length_set]; omega)] at e1; cases e1
  · rw [List.getElem?_set_ne z] at e1
    exact ⟨j, m, e1, e2⟩
/-- a slot's value made data: S' is S, or S with its object -/
theorem frz_ok {S : Ad} {L : Loc} {σ : St} {H : Hp} {i : Nat} {v : LVal} (rep : Rep K S L σ H) (e : getL L i = some v) :
    ∃ S', Rep K S' (L.set i (some (.imm v.data))) σ H ∧ (∀ a, S a → S' a) ∧ (∀ a, S' a → S a ∨ OwnA L σ a) ∧ ∃ x, σ[i]? = some (some x) ∧ Rp K S' H v.data x := by
  have e' := getL_some e
  have hi : i < L.length := (List.getElem?_eq_some_iff.mp e').1
  cases v with
  | imm d =>
    have q : L.set i (some (LVal.imm d)) = L := by
      apply List.ext_getElem?
      intro j
      by_cases z : i = j
      · subst z
        rw [List.getElem?_set_self hi, e']
      · rw [List.getElem?_set_ne z]
    obtain ⟨x, h1, h2⟩ := rep.imm i d e'
    exact ⟨S, by show Rep K S (L.set i (some (LVal.imm d))) σ H; rw [q]; exact rep, fun _ h => h, fun _ h => .inl h, x, h1, h2⟩
  | own m =>
    obtain ⟨p, h1, h2, h3⟩ := rep.own i m e'
    have hp := h3.rp
    refine ⟨plus S p, ⟨by rw [List.length_set]; exact rep.len, fun j d z => ?_, fun j m' z => ?_, fun j k m1 m2 q z1 z2 z3 z4 => ?_, fun a h => h.elim (rep.trk a) fun z => by rw [z]; exact h3.so⟩, fun _ h => .inl h, fun a h => h.elim .inl fun z => .inr ⟨i, m, e', by rw [h1, z]⟩, .ref p, h1, hp⟩
    · by_cases hj : i = j
      · subst hj
        rw [List.getElem?_set_self hi] at z
        cases z
        exact ⟨_, h1, hp⟩
      · rw [List.getElem?_set_ne hj] at z
        obtain ⟨x, q1, q2⟩ := rep.imm j d z
        exact ⟨x, q1, q2.mono (fun _ h => .inl h) fun _ _ _ e => e⟩
    · by_cases hj : i = j
      · subst hj
        rw [List.getElem?_set_self hi] at z
        cases z
      · rw [List.getElem?_set_ne hj] at z
        obtain ⟨q, q1, q2, q3⟩ := rep.own j m' z
        refine ⟨q, q1, fun w => w.elim q2 fun w => ?_, q3.mono (fun _ h => .inl h) (fun _ _ _ e => e) fun _ e => e⟩
        subst w
        exact hj (rep.inj i j m m' q e' z h1 q1)
    · have a1 : L[j]? = some (some (LVal.own m1)) := by
        by_cases hj : i = j
        · subst hj; rw [List.getElem?_set_self hi] at z1; cases z1
        · rw [List.getElem?_set_ne hj] at z1; exact z1
      have a2 : L[k]? = some (some (LVal.own m2)) := by
        by_cases hj : i = k
        · subst hj; rw [List.getElem?_set_self hi] at z2; cases z2
        · rw [List.getElem?_set_ne hj] at z2; exact z2
      exact rep.inj j k m1 m2 q a1 a2 z3 z4
theorem Nxt.frz {ln : Bool} {L0 L L' : Loc} {σ σ' : St} {S0 S S' : Ad} {H0 H : Hp} (n : Nxt ln L0 σ S0 H0 L σ' S H) (h1 : ∀ a, S a → S' a) (h2 : ∀ a, S' a → S a ∨ OwnA L σ' a) (h3 : ∀ a, OwnA L' σ' a → OwnA L σ' a) : Nxt ln L0 σ S0 H0 L' σ' S' H :=
  ⟨fun a h => h1 a (n.sub a h), fun a h => (h2 a h).elim (n.new a) fun z => (n.own a z).elim (fun w => .inr (.inr w)) fun w => .inr (.inl w), n.keep, n.there, fun a h => n.own a (h3 a h), n.lent⟩

/-! ### pending values -/
inductive RelPs (K : PySem.W.Frag) (Hs : Hp) (S : Ad) (L : Loc) (σ : St) (H : Hp) : List PVal → List V → Prop
  | nil : RelPs K Hs S L σ H [] []
  | cons {p : PVal} {x : V} {ps : List PVal} {xs : List V} : RelP K Hs S L σ H p x → (∀ m, p = .own m → ∀ (j : Nat) (m' : MO), ps[j]? = some (PVal.own m') → xs[j]? ≠ some x) → RelPs K Hs S L σ H ps xs → RelPs K Hs S L σ H (p :: ps) (x :: xs)
def rA (F : Fx) : St → RR (List PVal) (List V) := fun σ Hs S L H ps xs => RelPs F.K Hs S L σ H ps xs
abbrev RA (F : Fx) (f : FA) : TA := Go F f (rA F)
theorem RelPs.back {S : Ad} {L : Loc} {σ : St} {H H0 H1 : Hp} (b : ∀ a, H0 a ≠ none → H1 a ≠ none) : ∀ {ps : List PVal} {xs : List V}, RelPs K H1 S L σ H ps xs → RelPs K H0 S L σ H ps xs
  | _, _, .nil => .nil
  | _, _, .cons h d t => .cons (h.back b) d (RelPs.back b t)
theorem RelPs.get {S : Ad} {L : Loc} {σ : St} {H H1 : Hp} : ∀ {ps : List PVal} {xs : List V} {j : Nat} {p : PVal}, RelPs K H1 S L σ H ps xs → ps[j]? = some p → ∃ x, xs[j]? = some x ∧ RelP K H1 S L σ H p x
  | _, _, _, _, .nil, e => by simp at e
  | _, _, 0, _, .cons h _ _, e => by simp at e; subst e; exact ⟨_, rfl, h⟩
  | _, _, j + 1, p, .cons _ _ t, e => by
    obtain ⟨x, h1, h2⟩ := RelPs.get (j := j) (p := p) t (by simpa using e)
    exact ⟨x, by simpa using h1, h2⟩
inductive VwA (K : PySem.W.Frag) (S : Ad) (H : Hp) : List D → List V → Prop
  | nil : VwA K S H [] []
  | cons {d : D} {x : V} {ds : List D} {xs : List V} : Vw K S H d x → VwA K S H ds xs → VwA K S H (d :: ds) (x :: xs)
theorem RelPs.view {S : Ad} {L : Loc} {σ : St} {H Hs : Hp} (rep : Rep K S L σ H) : ∀ {ps : List PVal} {xs : List V} {ds : List D}, RelPs K Hs S L σ H ps xs → rdAll L ps = some ds → VwA K S H ds xs
  | _, _, _, .nil, e => by
    cases e
    exact .nil
  | _, _, ds, .cons (p := p) (ps := ps) h _ t, e => by
    unfold rdAll at e
    cases e1 : rd L p with
    | none => simp only [e1] at e; cases e
    | some d =>
      cases e2 : rdAll L ps with
      | none => simp only [e1, e2] at e; cases e
      | some es =>
        simp only [e1, e2] at e
        cases e
        exact .cons (rep.view h e1) (RelPs.view rep t e2)
/-- a pending value made data, seen from the start -/
theorem keepD_ok {ln : Bool} {L0 L L' : Loc} {σ : St} {S0 S : Ad} {H0 H : Hp} {p : PVal} {x : V} {d : D} (n : Nxt ln L0 σ S0 H0 L σ S H) (rep : Rep K S L σ H) (rel : RelP K H0 S L σ H p x) (e : keepD L p = .ok d L') :
    ∃ S', Nxt ln L0 σ S0 H0 L' σ S' H ∧ Rep K S' L' σ H ∧ Rp K S' H d x ∧ (∀ a, S a → S' a) ∧ (∀ a, OwnA L' σ a → OwnA L σ a) ∧ ∀ q, S' q → S q ∨ OwnA L σ q ∨ (∃ m, p = .own m ∧ x = .ref q) := by
  cases p with
  | imm d' =>
    cases e
    exact ⟨S, n, rep, rel, fun _ h => h, fun _ h => h, fun _ h => .inl h⟩
  | own m =>
    cases e
    obtain ⟨q, ex, h1, h2, h3, h4⟩ := rel
    subst ex
    refine ⟨plus S q, ⟨fun a h => .inl (n.sub a h), fun a h => h.elim (n.new a) fun z => by rw [z]; exact .inr (.inl h3), n.keep, n.there, n.own, n.lent⟩, rep.addS h2 h4.so, h4.rp, fun _ h => .inl h, fun _ h => h, fun a h => h.elim .inl fun z => .inr (.inr ⟨m, rfl, by rw [z]⟩)⟩
  | loc i =>
    unfold keepD at e
    cases e1 : getL L i with
    | none => simp only [e1] at e; cases e
    | some v =>
      simp only [e1] at e
      cases e
      obtain ⟨S', r1, r2, r3, y, r4, r5⟩ := frz_ok rep e1
      have : σ[i]? = some (some x) := rel
      rw [r4] at this
      cases this
      exact ⟨S', n.frz r2 r3 fun a => own_set, r1, r5, r2, fun a => own_set, fun q h => (r3 q h).elim .inl fun z => .inr (.inl z)⟩
theorem keepAll_ok {ln : Bool} {L0 : Loc} {σ : St} {S0 : Ad} {H0 H : Hp} : ∀ {ps : List PVal} {xs : List V} {S : Ad} {L L' : Loc} {ds : List D}, Nxt ln L0 σ S0 H0 L σ S H → Rep K S L σ H → RelPs K H0 S L σ H ps xs → keepAll ps L = .ok ds L' →
    ∃ S', Nxt ln L0 σ S0 H0 L' σ S' H ∧ Rep K S' L' σ H ∧ RpA K S' H ds xs ∧ ∀ a, S a → S' a
  | _, _, S, L, L', ds, n, rep, .nil, e => by
    cases e
    exact ⟨S, n, rep, .nil, fun _ h => h⟩
  | _, _, S, L, L', ds, n, rep, .cons (p := p) (x := x) (ps := ps) (xs := xs) h dis t, e => by
    unfold keepAll at e
    cases e1 : keepD L p with
    | bad => simp only [e1, Res.bind] at e; cases e
    | err c L1 => simp only [e1, Res.bind] at e; cases e
    | ok d L1 =>
      simp only [e1, Res.bind] at e
      obtain ⟨S1, n1, rep1, h1, sub1, own1, new1⟩ := keepD_ok n rep h e1
      have t1 : RelPs K H0 S1 L1 σ H ps xs := by
        clear e
        revert dis
        induction t with
        | nil => intro _; exact .nil
        | @cons p2 x2 ps2 xs2 h2 d2 t2 ih =>
          intro dis
          refine .cons ?_ d2 (ih fun m em j m' ej => by
            have := dis m em (j + 1) m' (by simpa using ej)
            simpa using this)
          cases p2 with
          | imm d => exact h2.mono sub1 fun _ _ _ e => e
          | loc i => exact h2
          | own m =>
            obtain ⟨q, ex, q1, q2, q3, q4⟩ := h2
            subst ex
            refine ⟨q, rfl, fun z => ?_, fun z => q2 (own1 q z), q3, q4.mono sub1 (fun _ _ _ e => e) fun _ e => e⟩
            rcases new1 q z with z | z | ⟨m', em, z⟩
            · exact q1 z
            · exact q2 z
            · exact dis m' em 0 m rfl (by rw [z]; rfl)
      cases e2 : keepAll ps L1 with
      | bad => simp only [e2] at e; cases e
      | err c L2 => simp only [e2] at e; cases e
      | ok es L2 =>
        simp only [e2] at e
        cases e
        obtain ⟨S2, n2, rep2, r2, sub2⟩ := keepAll_ok n1 rep1 t1 e2
        exact ⟨S2, n2, rep2, .cons (h1.mono sub2 fun _ _ _ e => e) r2, fun a h => sub2 a (sub1 a h)⟩

/-! ### the forms -/
theorem re_var {i : Nat} {x : Str} {pos : Pos} (hN : X.N[i]? = some x) (hv : Vis X.env.scope x) (hd : (x == ("__debug__" : Str)) = false) (hcd : (x == ("__classdict__" : Str)) = false) : PE X (.Name x pos) (RE F (varF i)) := by
  refine (pe_var hN hv hd hcd).imp fun σ H Q q => ?_
  obtain ⟨S, L, rep, q⟩ := q
  unfold varF at q
  cases e1 : getL L i with
  | none => simp only [e1] at q; exact q.elim
  | some v =>
    have e2 := getL_some e1
    cases v with
    | imm d =>
      simp only [e1] at q
      obtain ⟨v, h1, h2⟩ := rep.imm i d e2
      exact ⟨v, h1, q.here .refl rep h2⟩
    | own m =>
      simp only [e1] at q
      obtain ⟨p, h1, h2⟩ := rep.own i m e2
      exact ⟨_, h1, q.here .refl rep h1⟩
theorem re_cst {e : Expr} {d : D} {v : V} (h : PE X e (tC v)) (hd : ∀ S H, Rp F.K S H d v) : PE X e (RE F (cstF d)) := by
  refine h.imp fun σ H Q q => ?_
  obtain ⟨S, L, rep, q⟩ := q
  exact q.here .refl rep (hd S H)
theorem re_opt {e : Expr} {o : Option D} {v : V} (h : PE X e (tC v)) (hd : ∀ d, o = some d → ∀ S H, Rp F.K S H d v) : PE X e (RE F (optF o)) := by
  refine h.imp fun σ H Q q => ?_
  obtain ⟨S, L, rep, q⟩ := q
  unfold optF at q
  cases o with
  | none => exact q.elim
  | some d => exact q.here .refl rep (hd d rfl S H)
/-- one operand -/
theorem one_ok {α β : Type} {f : FE} {k : D → Loc → Res α} {R : St → RR α β} {op : V → Hp → (β → Hp → Prop) → Prop}
    (h : ∀ (S0 : Ad) (L0 : Loc) (H0 : Hp) (S : Ad) (L : Loc) (σ : St) (H : Hp) (d : D) (x : V) (Q : β → Hp → Prop), Nxt F.ln L0 σ S0 H0 L σ S H → Rep F.K S L σ H → Vw F.K S H d x → Aft F σ H0 L0 S0 (k d L) (R σ) Q → op x H Q)
    (σ : St) (H : Hp) (Q : β → Hp → Prop) (q : Go F (oneF f k) R σ H Q) : RE F f σ H fun x H1 => op x H1 Q := by
  refine go1 q fun S L p L1 S1 H1 x rep n1 rep1 rel1 h1 => ?_
  cases e1 : rd L1 p with
  | none => simp only [e1] at h1; exact h1.elim
  | some d =>
    simp only [e1] at h1
    exact h S L H S1 L1 σ H1 d x Q n1 rep1 (rep1.view rel1 e1) h1
theorem re_neg {a : Expr} {pos : Pos} {f : FE} (ha : PE X a (RE F f)) : PE X (.UnaryOp .USub a pos) (RE F (negF f)) := by
  refine (pe_un un_neg ha).imp (one_ok (R := rE F) (op := rU fun i => .int (-i)) ?_)
  intro S0 L0 H0 S L σ H d x Q n rep hx h
  cases d with
  | int i => exact ⟨i, hx.int, h.here n rep (.int _)⟩
  | _ => exact h.elim
theorem tru_of {S : Ad} {H : Hp} {d : D} {x : V} {k : Bool} (hx : Vw K S H d x) (h : truth d = some k) : TruV K x H k := by
  cases d with
  | none => rw [hx.nn]; cases h; rfl
  | bool b => rw [hx.bool]; cases h; rfl
  | int i => rw [hx.int]; cases h; rfl
  | str z =>
    rw [hx.str]
    simp only [truth] at h
    split at h
    · rename_i hz
      cases h
      refine ⟨hz, ?_⟩
      cases z.length <;> rfl
    · cases h
  | list ds =>
    obtain ⟨p, vs, rfl, h1, h2⟩ := hx.list
    cases h
    refine .inl ⟨vs, h1, ?_⟩
    cases h2 <;> rfl
  | tuple ds =>
    obtain ⟨p, vs, rfl, h1, h2⟩ := hx.tuple
    cases h
    refine .inr (.inl ⟨vs, h1, ?_⟩)
    cases h2 <;> rfl
  | dict l => cases h
theorem rt_tru {a : Expr} {f : FE} (ha : PE X a (RE F f)) (hK : F.K = X.K) (he : ∀ whole, isTrue a X.env whole = (do let v ← whole; standAt a.pos; holding [v] (truthy v))) : PT X a (RT F (truF f)) := by
  refine (pt_truth ha he).imp fun σ H Q q => one_ok (R := rId) (op := fun x H Q => ∃ k, TruV X.K x H k ∧ Q k H) ?_ σ H Q q
  intro S0 L0 H0 S L σ H d x Q n rep hx h
  cases e1 : truth d with
  | none => simp only [e1, ofOpt] at h; exact h.elim
  | some k =>
    simp only [e1, ofOpt] at h
    exact ⟨k, by rw [← hK]; exact tru_of hx e1, h.here n rep rfl⟩
theorem re_not {a : Expr} {pos : Pos} {f : FE} (ha : PE X a (RE F f)) (hK : F.K = X.K) : PE X (.UnaryOp .Not a pos) (RE F (notF (truF f))) := by
  refine (pe_notT ha).imp fun σ H Q q => ?_
  have q : Go F (oneF f fun d L => (ofOpt (truth d) L).bind fun b L1 => .ok (.imm (.bool (!b))) L1) (rE F) σ H Q := by
    obtain ⟨S, L, rep, q⟩ := q
    refine ⟨S, L, rep, ?_⟩
    unfold notF truF oneF at q
    unfold oneF
    cases e1 : f L with
    | bad => simp only [e1, Res.bind] at q; exact q.elim
    | err c L1 => simp only [e1, Res.bind] at q ⊢; exact q
    | ok p L1 =>
      simp only [e1, Res.bind] at q ⊢
      cases e2 : rd L1 p with
      | none => simp only [e2] at q; exact q.elim
      | some d => simp only [e2] at q ⊢; exact q
  refine one_ok (R := rE F) (op := fun x H Q => ∃ k, TruV X.K x H k ∧ Q (.bl (!k)) H) ?_ σ H Q q
  intro S0 L0 H0 S L σ H d x Q n rep hx h
  cases e1 : truth d with
  | none => simp only [e1, ofOpt, Res.bind] at h; exact h.elim
  | some k =>
    simp only [e1, ofOpt, Res.bind] at h
    exact ⟨k, by rw [← hK]; exact tru_of hx e1, h.here n rep (.bl _)⟩
theorem rt_not {a : Expr} {pos : Pos} {f : FT} (ha : PT X a (RT F f)) : PT X (.UnaryOp .Not a pos) (RT F (notT f)) := by
  refine (pt_not ha).imp fun σ H Q q => ?_
  exact go1 q fun S L b L1 S1 H1 c rep n1 rep1 rel h => by cases rel; exact h.here n1 rep1 rfl
theorem rt_and1 {a : Expr} {pos : Pos} {f : FT} (ha : PT X a (RT F f)) : PW X (.BoolOp .And [a] pos) (RT F f) := pw_and1 ha
theorem rt_or1 {a : Expr} {pos : Pos} {f : FT} (ha : PT X a (RT F f)) : PW X (.BoolOp .Or [a] pos) (RT F f) := pw_or1 ha
theorem rt_and {a b : Expr} {rest : List Expr} {pos : Pos} {f g : FT} (ha : PT X a (RT F f)) (hb : PW X (.BoolOp .And (b :: rest) pos) (RT F g)) : PW X (.BoolOp .And (a :: b :: rest) pos) (RT F (andT f g)) := by
  refine (pw_and ha hb).imp fun σ H Q q => ?_
  refine go1 q fun S L b L1 S1 H1 c rep n1 rep1 rel h => ?_
  cases rel
  cases b with
  | true => exact ⟨S1, L1, rep1, Aft.bind (r := g L1) (g := fun a L => .ok a L) (R1 := rId σ) n1 (by cases e : g L1 <;> simp only [e] at h <;> exact h) fun a L2 S2 H2 b n2 n12 rep2 rel2 h2 => by cases rel2; exact h2.here n2 rep2 rfl⟩
  | false => exact h.here n1 rep1 rfl
theorem rt_or {a b : Expr} {rest : List Expr} {pos : Pos} {f g : FT} (ha : PT X a (RT F f)) (hb : PW X (.BoolOp .Or (b :: rest) pos) (RT F g)) : PW X (.BoolOp .Or (a :: b :: rest) pos) (RT F (orT f g)) := by
  refine (pw_or ha hb).imp fun σ H Q q => ?_
  refine go1 q fun S L b L1 S1 H1 c rep n1 rep1 rel h => ?_
  cases rel
  cases b with
  | false => exact ⟨S1, L1, rep1, Aft.bind (r := g L1) (g := fun a L => .ok a L) (R1 := rId σ) n1 (by cases e : g L1 <;> simp only [e] at h <;> exact h) fun a L2 S2 H2 b n2 n12 rep2 rel2 h2 => by cases rel2; exact h2.here n2 rep2 rfl⟩
  | true => exact h.here n1 rep1 rfl
end
end Fw

/-! expressions, further: choices, displays, items, slices, built-ins -/
namespace Fw
open PySem PySem.Spec L2
section
variable {F : Fx} {K : PySem.W.Frag} {X : Cx} {pos : Pos}
theorem tail_E {g : FE} {σ : St} {H H1 : Hp} {L L1 : Loc} {S S1 : Ad} {Q : VK} (n : Nxt F.ln L σ S H L1 σ S1 H1) (rep : Rep F.K S1 L1 σ H1) (h : Aft F σ H L S (g L1) (rE F σ) Q) : RE F g σ H1 Q := by
  refine ⟨S1, L1, rep, ?_⟩
  cases e : g L1 with
  | ok a L2 =>
    rw [e] at h
    exact fun S' H' b n' rep' rel => h S' H' b (n.trans n') rep' (RelP.back rel n.there)
  | err c L2 =>
    rw [e] at h
    exact fun S' H' n' rep' => h S' H' (n.trans n') rep'
  | bad => rw [e] at h; exact h
theorem re_and {a b : Expr} {rest : List Expr} {f g : FE} (ha : PE X a (RE F f)) (hb : PE X (.BoolOp .And (b :: rest) pos) (RE F g)) : PE X (.BoolOp .And (a :: b :: rest) pos) (RE F (andF f g)) := by
  refine (pe_and ha hb).imp fun σ H Q q => ?_
  refine go1 q fun S L p L1 S1 H1 x rep n1 rep1 rel h => ?_
  cases p with
  | imm d =>
    cases d with
    | bool k =>
      cases rel
      cases k with
      | true => exact ⟨true, rfl, tail_E n1 rep1 h⟩
      | false => exact ⟨false, rfl, h.here n1 rep1 (.bl _)⟩
    | _ => exact h.elim
  | _ => exact h.elim
theorem re_or {a b : Expr} {rest : List Expr} {f g : FE} (ha : PE X a (RE F f)) (hb : PE X (.BoolOp .Or (b :: rest) pos) (RE F g)) : PE X (.BoolOp .Or (a :: b :: rest) pos) (RE F (orF f g)) := by
  refine (pe_or ha hb).imp fun σ H Q q => ?_
  refine go1 q fun S L p L1 S1 H1 x rep n1 rep1 rel h => ?_
  cases p with
  | imm d =>
    cases d with
    | bool k =>
      cases rel
      cases k with
      | true => exact ⟨true, rfl, h.here n1 rep1 (.bl _)⟩
      | false => exact ⟨false, rfl, tail_E n1 rep1 h⟩
    | _ => exact h.elim
  | _ => exact h.elim
theorem re_ite {c a b : Expr} {t : FT} {f g : FE} (hc : PT X c (RT F t)) (ha : PE X a (RE F f)) (hb : PE X b (RE F g)) : PE X (.IfExp c a b pos) (RE F (iteF t f g)) := by
  refine (pe_ifExp hc ha hb).imp fun σ H Q q => ?_
  refine go1 q fun S L k L1 S1 H1 x rep n1 rep1 rel h => ?_
  cases rel
  cases k with
  | true => exact tail_E n1 rep1 h
  | false => exact tail_E n1 rep1 h
/-! ### arguments, displays -/
theorem ra_nil : PA X [] (RA F nilA) := pa_nil.imp fun σ H Q ⟨S, L, rep, q⟩ => q.here .refl rep .nil
theorem ra_cons {e : Expr} {es : List Expr} {f : FE} {r : FA} (ha : PE X e (RE F f)) (hr : PA X es (RA F r)) (hs : starEach (e :: es) X.env = (false, eval e X.env) :: starEach es X.env) : PA X (e :: es) (RA F (consA f r)) := by
  refine (pa_cons ha hr hs).imp fun σ H Q q => ?_
  refine go1 q fun S L p L1 S1 H1 x rep n1 rep1 rel h => ?_
  refine go2 n1 rep1 h fun ps L2 S2 H2 xs n2 n12 rep2 rels h2 => ?_
  refine h2.here n2 rep2 (.cons (RelP.next n12 rep1 rel) (fun m em j m' ej => ?_) (rels.back n1.there))
  obtain ⟨y, e1, e2⟩ := rels.get ej
  obtain ⟨q, eq, _, _, q3, _⟩ := e2
  subst em
  obtain ⟨q', eq', _, _, _, q4'⟩ := rel
  rw [e1, eq, eq']
  intro z
  cases z
  exact q4'.so q3
theorem keepD_noerr {p : PVal} {L L' : Loc} {c : Nat} : keepD L p ≠ .err c L' := by
  unfold keepD
  cases p with
  | imm d => intro e; cases e
  | own m => intro e; cases e
  | loc i =>
    intro e
    simp only at e
    split at e <;> cases e
theorem keepAll_noerr : ∀ {ps : List PVal} {L L' : Loc} {c : Nat}, keepAll ps L ≠ .err c L'
  | [], L, L', c, e => by cases e
  | p :: ps, L, L', c, e => by
    unfold keepAll at e
    cases e1 : keepD L p with
    | bad => simp only [e1, Res.bind] at e; cases e
    | err c L1 => exact keepD_noerr e1
    | ok d L1 =>
      simp only [e1, Res.bind] at e
      cases e2 : keepAll ps L1 with
      | bad => simp only [e2] at e; cases e
      | err c L1 => exact keepAll_noerr e2
      | ok d L1 => simp only [e2] at e; cases e
/-- arguments as data, then k -/
theorem kept_ok {α β : Type} {r : FA} {k : List D → Loc → Res α} {R : St → RR α β} {op : St → List V → Hp → (β → Hp → Prop) → Prop}
    (h : ∀ (S0 : Ad) (L0 : Loc) (H0 : Hp) (S : Ad) (L : Loc) (σ : St) (H : Hp) (ds : List D) (xs : List V) (Q : β → Hp → Prop), Nxt F.ln L0 σ S0 H0 L σ S H → Rep F.K S L σ H → RpA F.K S H ds xs → Aft F σ H0 L0 S0 (k ds L) (R σ) Q → op σ xs H Q)
    (σ : St) (H : Hp) (Q : β → Hp → Prop) (q : Go F (keptF r k) R σ H Q) : RA F r σ H fun xs H1 => op σ xs H1 Q := by
  refine go1 q fun S L ps L1 S1 H1 xs rep n1 rep1 rels h1 => ?_
  cases e : keepAll ps L1 with
  | bad => simp only [e, Res.bind] at h1; exact h1.elim
  | err c L2 => exact absurd e keepAll_noerr
  | ok ds L2 =>
    simp only [e, Res.bind] at h1
    obtain ⟨S2, n2, rep2, r2, _⟩ := keepAll_ok n1 rep1 rels e
    exact h S L H S2 L2 σ H1 ds xs Q n2 rep2 r2 h1
theorem re_tup {es : List Expr} {k : Nat} {r : FA} (ha : PA X es (RA F r)) : PE X (.Tuple es k pos) (RE F (tupF r)) := by
  refine (pe_tup ha).imp (kept_ok (R := rE F) (op := fun _ xs H1 Q => xs.length ≤ sizeLine ∧ ∀ p, H1 p = none → Q (.ref p) (upd H1 p (.tup xs))) ?_)
  intro S0 L0 H0 S L σ H ds xs Q n rep r h
  by_cases hz : ds.length ≤ line
  · rw [if_pos hz] at h
    exact ⟨by rw [← r.length, ← line_eq]; exact hz, res_tup rep (op_res n h) r⟩
  · rw [if_neg hz] at h; exact h.elim
theorem re_lst {es : List Expr} {r : FA} (ha : PA X es (RA F r)) : PE X (.List es pos) (RE F (lstF r)) := by
  refine (pe_lst ha).imp (kept_ok (R := rE F) (op := fun _ xs H1 Q => xs.length ≤ sizeLine ∧ ∀ p, H1 p = none → Q (.ref p) (upd H1 p (.lst xs))) ?_)
  intro S0 L0 H0 S L σ H ds xs Q n rep r h
  by_cases hz : ds.length ≤ line
  · rw [if_pos hz] at h
    exact ⟨by rw [← r.length, ← line_eq]; exact hz, res_list rep (op_res n h) r⟩
  · rw [if_neg hz] at h; exact h.elim
/-! ### items -/
theorem atI_D {S : Ad} {H : Hp} {ds : List D} {vs : List V} {i : Int} {d : D} (r : RpA K S H ds vs) (h : ((ixD ds.length i).bind fun j => ds[j]?) = some d) : ∃ v, atI vs i = some v ∧ Rp K S H d v := by
  unfold atI
  have e : ixN vs.length i = ixD ds.length i := by unfold ixN ixD; rw [r.length]
  rw [e]
  cases q : ixD ds.length i with
  | none => rw [q] at h; cases h
  | some j =>
    rw [q] at h
    exact r.get h
/-- an item of a dict -/
theorem key_of {d : D} (h : isKey d = true) : ∃ k : Key, d = keyD k := by
  cases d with
  | int i => exact ⟨.inl i, rfl⟩
  | str x => exact ⟨.inr x, rfl⟩
  | _ => cases h
theorem Vw.key {S : Ad} {H : Hp} {k : Key} {x : V} (h : Vw K S H (keyD k) x) : x = kV k := by
  cases k with
  | inl i => exact h.int
  | inr z => exact h.str
theorem keyEq_iff (k j : Key) : keyEq (keyD j) (keyD k) = decide (j = k) := by
  cases j <;> cases k <;> simp [keyEq, keyD, Bool.beq_eq_decide_eq]
theorem dget_kv {S : Ad} {H : Hp} (k : Key) : ∀ {l : List (D × D)} {kvs : List (Key × V)}, l.map Prod.fst = kvs.map (fun p => keyD p.1) → RpA K S H (l.map Prod.snd) (kvs.map Prod.snd) →
    (dget (keyD k) l = none ∧ valV kvs k = none) ∨ ∃ d v, dget (keyD k) l = some d ∧ valV kvs k = some v ∧ Rp K S H d v
  | [], [], _, _ => .inl ⟨rfl, rfl⟩
  | [], _ :: _, e, _ => by cases e
  | _ :: _, [], e, _ => by cases e
  | (kd, d) :: l, (j, v) :: kvs, e, r => by
    simp only [List.map_cons, List.cons.injEq] at e
    obtain ⟨rfl, e2⟩ := e
    cases r with
    | cons r1 r2 =>
      unfold dget
      rw [keyEq_iff]
      by_cases z : j = k
      · rw [decide_eq_true z, if_pos rfl, valV_pos (show ((j, v) : Key × V).1 = k from z)]
        exact .inr ⟨d, v, rfl, rfl, r1⟩
      · rw [decide_eq_false z, if_neg Bool.false_ne_true, valV_neg (show ¬ ((j, v) : Key × V).1 = k from z)]
        exact dget_kv k e2 r2
def rDG : R2 := fun x y H Q => ∃ a v, x = .ref a ∧ DGet H a y (some v) ∧ Q v H
theorem ix_dict (hu : X.A.units + 1 < cLine) : IxR X rDG := by
  intro value slice pins s σ H x y v u Q I rx ry h hs
  obtain ⟨a, z, rfl, g, q⟩ := h
  cases rx
  exact PyProof.Rows.tail_any (dict_typeIs I g) PySem.F.slot_dict_getitem.lookup (d_getItem hu I g ry fun w' s3 I3 rw' => ⟨z, H, I3, rw', q⟩) hs
theorem re_item {a b : Expr} {f g : FE} (hu : X.A.units + 1 < cLine) (hK : F.K = X.K) (ha : PE X a (RE F f)) (hb : PE X b (RE F g)) (hs : ∀ o i, subscripted b false o i = operate [o, i] (getItem o i)) : PE X (.Subscript a b pos) (RE F (itemF f g)) := by
  refine (pe_ix (ix_list.or (ix_tup.or (ix_dict hu))) ha hb hs).imp (two_ok (R := rE F) (r := fun ta tb => tOp (fun x y H Q => rIxL X.K x y H Q ∨ rIxT X.K x y H Q ∨ rDG x y H Q) ta tb) (op := fun x y H Q => rIxL X.K x y H Q ∨ rIxT X.K x y H Q ∨ rDG x y H Q) (fun _ _ _ _ _ h => h) ?_)
  intro S0 L0 H0 S L σ H d e x y Q n rep hx hy h
  cases e1 : itemD d e with
  | none => simp only [e1] at h; exact h.elim
  | some z =>
    simp only [e1] at h
    unfold itemD at e1
    split at e1
    · rename_i ds i
      obtain ⟨p, vs, rfl, h1, r⟩ := hx.list
      obtain ⟨v, q1, q2⟩ := atI_D r e1
      exact .inl ⟨p, vs, i, v, rfl, hy.int, hK ▸ h1, q1, h.here n rep q2⟩
    · rename_i ds i
      obtain ⟨p, vs, rfl, h1, r⟩ := hx.tuple
      obtain ⟨v, q1, q2⟩ := atI_D r e1
      exact .inr (.inl ⟨p, vs, i, v, rfl, hy.int, hK ▸ h1, q1, h.here n rep q2⟩)
    · rename_i l
      split at e1
      · rename_i hk
        obtain ⟨p, kvs, rfl, h1, h2, r⟩ := hx.dict
        obtain ⟨k, rfl⟩ := key_of hk
        rcases dget_kv k h2 r with ⟨z1, _⟩ | ⟨d, v, z1, z2, z3⟩
        · rw [z1] at e1; cases e1
        · rw [z1] at e1
          cases e1
          exact .inr (.inr ⟨p, v, rfl, .inl ⟨kvs, k, h1, hy.key, z2.symm⟩, h.here n rep z3⟩)
      · cases e1
    · cases e1
/-! ### slices -/
abbrev RO (F : Fx) (f : FO) : TO := Go F f rId
theorem ro_non : PO X none (RO F nonO) := ⟨fun pins s σ H Q I ⟨S, L, rep, q⟩ => po_none.run pins s σ H Q I (q.here .refl rep rfl)⟩
theorem ro_some {e : Expr} {f : FE} (he : PE X e (RE F f)) : PO X (some e) (RO F (someO f)) := ⟨fun pins s σ H Q I q => (po_some he).run pins s σ H Q I (one_ok (R := rId) (op := fun x H Q => ∃ i, x = .int i ∧ Q (some i) H) (by
  intro S0 L0 H0 S L σ H d x Q n rep hx h
  cases d with
  | int i => exact ⟨i, hx.int, h.here n rep rfl⟩
  | _ => exact h.elim) σ H Q q)⟩
theorem cut_D {S : Ad} {H : Hp} {ds : List D} {vs : List V} (r : RpA K S H ds vs) (lo hi : Option Int) : RpA K S H (cutD ds lo hi) (cutV vs lo hi) := by
  unfold cutD cutV
  rw [r.length]
  exact RpA.take _ (RpA.drop _ r)
theorem re_slc {a : Expr} {lo hi : Option Expr} {p2 : Pos} {f : FE} {g h : FO} (hK : F.K = X.K) (ha : PE X a (RE F f)) (hl : PO X lo (RO F g)) (hh : PO X hi (RO F h)) : PE X (.Subscript a (.Slice lo hi none p2) pos) (RE F (slcF f g h)) := by
  refine (pe_slice (sl_list.or sl_tupA) ha hl hh).imp fun σ H Q q => ?_
  refine go1 q fun S L p L1 S1 H1 x rep n1 rep1 rel1 h1 => ?_
  refine go2 n1 rep1 h1 fun l L2 S2 H2 l' n2 n12 rep2 el h2 => ?_
  cases el
  refine go2 n2 rep2 h2 fun u L3 S3 H3 u' n3 n23 rep3 eu h3 => ?_
  cases eu
  have rel3 : RelP F.K H S3 L3 σ H3 p x := RelP.next n23 rep2 (RelP.next n12 rep1 rel1)
  cases e1 : rd L3 p with
  | none => simp only [e1] at h3; exact h3.elim
  | some d =>
    have hx := rep3.view rel3 e1
    simp only [e1] at h3
    cases d with
    | list ds =>
      obtain ⟨a, vs, rfl, q1, r⟩ := hx.list
      exact .inl ⟨a, vs, rfl, hK ▸ q1, res_list rep3 (op_res n3 h3) (cut_D r l u)⟩
    | tuple ds =>
      have ht := hx.tupRp
      obtain ⟨a, vs, rfl, q1, r⟩ := hx.tuple
      refine .inr ⟨a, vs, rfl, hK ▸ q1, fun ⟨z1, z2⟩ => ?_, fun _ => res_tup rep3 (op_res n3 h3) (cut_D r l u)⟩
      have e : cutD ds l u = ds := by
        unfold cutD
        rw [r.length, z1, z2, ← r.length]
        simp
      have h3 : Aft F σ H L S (.ok (.imm (.tuple (cutD ds l u))) L3) (rE F σ) Q := h3
      rw [e] at h3
      exact h3.here n3 rep3 ht
    | _ => exact h3.elim
theorem re_rev {e : Expr} {k : Nat} {p1 p2 p3 : Pos} {f : FE} (hK : F.K = X.K) (he : PE X e (RE F f)) : PE X (.Subscript e (.Slice none none (some (.UnaryOp .USub (.Constant (.int 1) k p1) p2)) p3) pos) (RE F (revF f)) := by
  refine (pe_revL he).imp (one_ok (R := rE F) (op := fun x H1 Q => ∃ a xs, x = .ref a ∧ SqL X.K H1 a xs ∧ ∀ p, H1 p = none → Q (.ref p) (upd H1 p (.lst xs.reverse))) ?_)
  intro S0 L0 H0 S L σ H d x Q n rep hx h
  cases d with
  | list ds =>
    obtain ⟨a, vs, rfl, q1, r⟩ := hx.list
    exact ⟨a, vs, rfl, hK ▸ q1, res_list rep (op_res n h) r.reverse⟩
  | _ => exact h.elim
end
end Fw

/-! expressions, further: built-in functions, calls of defs, methods that change -/
namespace Fw
open PySem PySem.Spec L2
section
variable {F : Fx} {K : PySem.W.Frag} {X : Cx} {pos : Pos}
/-! ### built-ins -/
def BiS (K : PySem.W.Frag) (r : List V → Hp → VK → Prop) (k : List D → Option PVal) : Prop := ∀ (S : Ad) (L : Loc) (σ : St) (H : Hp) (ds : List D) (xs : List V) (z : PVal) (Q : VK), Rep K S L σ H → VwA K S H ds xs → k ds = some z →
  (∀ S' H' v, (∀ ln, Nxt ln L σ S H L σ S' H') → Rep K S' L σ H' → RelP K H S' L σ H' z v → Q v H') → r xs H Q
theorem bi_ok {b : BI} {r : FA} {rr : List V → Hp → VK → Prop} (hs : BiS F.K rr (opBI b)) (σ : St) (H : Hp) (Q : VK) (q : RE F (biF b r) σ H Q) : RA F r σ H fun xs H1 => rr xs H1 Q := by
  refine go1 q fun S L ps L1 S1 H1 xs rep n1 rep1 rels h1 => ?_
  cases e : rdAll L1 ps with
  | none => simp only [e] at h1; exact h1.elim
  | some ds =>
    simp only [e] at h1
    cases e2 : opBI b ds with
    | none => simp only [e2, ofOpt] at h1; exact h1.elim
    | some z =>
      simp only [e2, ofOpt] at h1
      exact hs S1 L1 σ H1 ds xs z Q rep1 (rels.view rep1 e) e2 (op_res n1 h1)
theorem re_biB {b : BI} {x : Str} {p : Pos} {e : Expr} {es : List Expr} {id : String} {r : FA} {rr : List V → Hp → VK → Prop} (hc : CallR X (.builtin id) rr) (hs : BiS F.K rr (opBI b)) (hg : Gl X x) (hm : X.mg x = none) (hv : bootBuiltins x = some (.builtin id)) (ha : PA X (e :: es) (RA F r))
    (hn : x ≠ "__name__") (hdb : (x == ("__debug__" : Str)) = false) (he : starEach (e :: es) X.env = (false, eval e X.env) :: starEach es X.env) (hpl : (backTo pos (starEach es X.env)).any (·.1) = false) : PE X (.Call (.Name x p) (e :: es) [] pos) (RE F (biF b r)) :=
  (pe_callB hc hg hm hv ha hn hdb he hpl).imp (bi_ok hs)
theorem re_biT {b : BI} {x : Str} {p : Pos} {e : Expr} {es : List Expr} {id : String} {r : FA} {rr : List V → Hp → VK → Prop} (hc : CallR X (.type id) rr) (hs : BiS F.K rr (opBI b)) (hg : Gl X x) (hm : X.mg x = none) (hv : bootBuiltins x = some (.type id)) (ha : PA X (e :: es) (RA F r))
    (hn : x ≠ "__name__") (hdb : (x == ("__debug__" : Str)) = false) (he : starEach (e :: es) X.env = (false, eval e X.env) :: starEach es X.env) (hpl : (backTo pos (starEach es X.env)).any (·.1) = false) : PE X (.Call (.Name x p) (e :: es) [] pos) (RE F (biF b r)) :=
  (pe_callTy hc hg hm hv ha hn hdb he hpl).imp (bi_ok hs)
theorem VwA.one {S : Ad} {H : Hp} {d : D} {xs : List V} (h : VwA K S H [d] xs) : ∃ x, xs = [x] ∧ Vw K S H d x := by
  cases h with
  | cons h t => cases t; exact ⟨_, rfl, h⟩
theorem VwA.two {S : Ad} {H : Hp} {d e : D} {xs : List V} (h : VwA K S H [d, e] xs) : ∃ x y, xs = [x, y] ∧ Vw K S H d x ∧ Vw K S H e y := by
  cases h with
  | cons h t =>
    cases t with
    | cons h2 t2 => cases t2; exact ⟨_, _, rfl, h, h2⟩
theorem bs_abs : BiS K (fun xs H Q => ∃ i, xs = [.int i] ∧ Q (.int (if i < 0 then -i else i)) H) (opBI .abs) := by
  intro S L σ H ds xs z Q rep hv h q
  replace h : biAbs ds = some z := h
  unfold biAbs at h
  split at h
  · obtain ⟨x, rfl, hx⟩ := hv.one
    cases h
    exact ⟨_, by rw [hx.int], res_flat rep q (.int _)⟩
  · cases h
theorem bs_int : BiS K (fun xs H Q => (∃ i, xs = [.int i] ∧ Q (.int i) H) ∨ ∃ k, xs = [.bl k] ∧ Q (.int (if k then 1 else 0)) H) (opBI .int) := by
  intro S L σ H ds xs z Q rep hv h q
  replace h : biInt ds = some z := h
  unfold biInt at h
  split at h
  · obtain ⟨x, rfl, hx⟩ := hv.one
    cases h
    exact .inl ⟨_, by rw [hx.int], res_flat rep q (.int _)⟩
  · obtain ⟨x, rfl, hx⟩ := hv.one
    cases h
    exact .inr ⟨_, by rw [hx.bool], res_flat rep q (.int _)⟩
  · cases h
def rLenD : List V → Hp → VK → Prop := fun xs H Q => ∃ a kvs, xs = [V.ref a] ∧ Rd H a (.dK kvs) ∧ Q (.int kvs.length) H
theorem call_lenR : CallR X (.builtin "len") rLenD := by
  intro pins s σ H xs us Q I r h
  obtain ⟨a, kvs, rfl, e, q⟩ := h
  rw [Vals.ref1 r]
  exact d_len I e fun t s' I' => ⟨.int _, H, I', ⟨_, rfl⟩, q⟩
abbrev rLenG (K : PySem.W.Frag) : List V → Hp → VK → Prop := fun xs H Q => (fun xs H Q => ∃ p ys, xs = [.ref p] ∧ (SqL K H p ys ∨ SqT K H p ys) ∧ Q (.int ys.length) H : List V → Hp → VK → Prop) xs H Q ∨ ((fun xs H Q => ∃ z, xs = [.str z] ∧ z.length ≤ sizeLine ∧ Q (.int z.length) H : List V → Hp → VK → Prop) xs H Q ∨ rLenD xs H Q)
theorem call_lenG : CallR X (.builtin "len") (rLenG X.K) := call_len_seq.or (call_len_str.or call_lenR)
theorem bs_len : BiS K (rLenG K) (opBI .len) := by
  intro S L σ H ds xs z Q rep hv h q
  replace h : biLen ds = some z := h
  unfold biLen at h
  split at h
  · obtain ⟨x, rfl, hx⟩ := hv.one
    obtain ⟨p, vs, rfl, h1, r⟩ := hx.list
    cases h
    exact .inl ⟨p, vs, rfl, .inl h1, by rw [← r.length]; exact res_flat rep q (.int _)⟩
  · obtain ⟨x, rfl, hx⟩ := hv.one
    obtain ⟨p, vs, rfl, h1, r⟩ := hx.tuple
    cases h
    exact .inl ⟨p, vs, rfl, .inr h1, by rw [← r.length]; exact res_flat rep q (.int _)⟩
  · rename_i l
    obtain ⟨x, rfl, hx⟩ := hv.one
    obtain ⟨p, vs, rfl, h1, h2, r⟩ := hx.dict
    have e : l.length = vs.length := by have := congrArg List.length h2; simpa using this
    cases h
    exact .inr (.inr ⟨p, vs, rfl, h1, by rw [← e]; exact res_flat rep q (.int _)⟩)
  · obtain ⟨x, rfl, hx⟩ := hv.one
    split at h
    · rename_i hz
      cases h
      exact .inr (.inl ⟨_, by rw [hx.str], hz, res_flat rep q (.int _)⟩)
    · cases h
  · cases h
theorem bs_tuple : BiS K (fun xs H Q => ∃ p ys, xs = [.ref p] ∧ ((SqL K H p ys ∧ ∀ l, H l = none → Q (.ref l) (upd H l (.tup ys))) ∨ (SqT K H p ys ∧ Q (.ref p) H))) (opBI .tuple) := by
  intro S L σ H ds xs z Q rep hv h q
  replace h : biTuple ds = some z := h
  unfold biTuple at h
  split at h
  · obtain ⟨x, rfl, hx⟩ := hv.one
    obtain ⟨p, vs, rfl, h1, r⟩ := hx.list
    cases h
    exact ⟨p, vs, rfl, .inl ⟨h1, res_tup rep q r⟩⟩
  · obtain ⟨x, rfl, hx⟩ := hv.one
    have ht := hx.tupRp
    obtain ⟨p, vs, rfl, h1, r⟩ := hx.tuple
    cases h
    exact ⟨p, vs, rfl, .inr ⟨h1, res_flat rep q ht⟩⟩
  · cases h
theorem bs_list : BiS K (fun xs H Q => ∃ p ys, xs = [.ref p] ∧ (SqL K H p ys ∨ SqT K H p ys) ∧ ∀ l, H l = none → Q (.ref l) (upd H l (.lst ys))) (opBI .list) := by
  intro S L σ H ds xs z Q rep hv h q
  replace h : biList ds = some z := h
  unfold biList at h
  split at h
  · obtain ⟨x, rfl, hx⟩ := hv.one
    obtain ⟨p, vs, rfl, h1, r⟩ := hx.list
    cases h
    exact ⟨p, vs, rfl, .inl h1, res_list rep q r⟩
  · obtain ⟨x, rfl, hx⟩ := hv.one
    obtain ⟨p, vs, rfl, h1, r⟩ := hx.tuple
    cases h
    exact ⟨p, vs, rfl, .inr h1, res_list rep q r⟩
  · cases h
theorem bs_sum : BiS K (rSum K) (opBI .sum) := by
  intro S L σ H ds xs z Q rep hv h q
  replace h : biSum ds = some z := h
  unfold biSum at h
  split at h
  · rename_i ds
    obtain ⟨x, rfl, hx⟩ := hv.one
    obtain ⟨p, vs, rfl, h1, r⟩ := hx.list
    cases e : intsD ds with
    | none => rw [e] at h; cases h
    | some ns =>
      rw [e] at h
      cases h
      obtain ⟨_, e2⟩ := r.ints e
      subst e2
      exact ⟨p, ns, rfl, h1, res_flat rep q (.int _)⟩
  · cases h
theorem bs_all : BiS K (rAll K) (opBI .all) := by
  intro S L σ H ds xs z Q rep hv h q
  replace h : biAll ds = some z := h
  unfold biAll at h
  split at h
  · rename_i ds
    obtain ⟨x, rfl, hx⟩ := hv.one
    obtain ⟨p, vs, rfl, h1, r⟩ := hx.list
    cases e : boolsD ds with
    | none => rw [e] at h; cases h
    | some ns =>
      rw [e] at h
      cases h
      obtain ⟨_, e2⟩ := r.bools e
      subst e2
      exact ⟨p, ns, rfl, h1, res_flat rep q (.bl _)⟩
  · cases h
theorem bs_any : BiS K (rAny K) (opBI .any) := by
  intro S L σ H ds xs z Q rep hv h q
  replace h : biAny ds = some z := h
  unfold biAny at h
  split at h
  · rename_i ds
    obtain ⟨x, rfl, hx⟩ := hv.one
    obtain ⟨p, vs, rfl, h1, r⟩ := hx.list
    cases e : boolsD ds with
    | none => rw [e] at h; cases h
    | some ns =>
      rw [e] at h
      cases h
      obtain ⟨_, e2⟩ := r.bools e
      subst e2
      exact ⟨p, ns, rfl, h1, res_flat rep q (.bl _)⟩
  · cases h
theorem bs_max2 : BiS K (fun xs H Q => ∃ i j, xs = [.int i, .int j] ∧ Q (.int (if j > i then j else i)) H) (opBI .max2) := by
  intro S L σ H ds xs z Q rep hv h q
  replace h : biMax2 ds = some z := h
  unfold biMax2 at h
  split at h
  · obtain ⟨x, y, rfl, hx, hy⟩ := hv.two
    cases h
    exact ⟨_, _, by rw [hx.int, hy.int], res_flat rep q (.int _)⟩
  · cases h
theorem bs_min2 : BiS K (fun xs H Q => ∃ i j, xs = [.int i, .int j] ∧ Q (.int (if j < i then j else i)) H) (opBI .min2) := by
  intro S L σ H ds xs z Q rep hv h q
  replace h : biMin2 ds = some z := h
  unfold biMin2 at h
  split at h
  · obtain ⟨x, y, rfl, hx, hy⟩ := hv.two
    cases h
    exact ⟨_, _, by rw [hx.int, hy.int], res_flat rep q (.int _)⟩
  · cases h
theorem maxI_spec : ∀ (r : List Int) (m : Int), (maxI m r = m ∨ maxI m r ∈ r) ∧ m ≤ maxI m r ∧ ∀ y ∈ r, y ≤ maxI m r
  | [], m => ⟨.inl rfl, Int.le_refl _, fun _ h => by cases h⟩
  | i :: r, m => by
    obtain ⟨h1, h2, h3⟩ := maxI_spec r (if m < i then i else m)
    unfold maxI
    by_cases c : m < i
    · rw [if_pos c] at h1 h2 h3 ⊢
      refine ⟨.inr ?_, by omega, fun y hy => ?_⟩
      · rcases h1 with h1 | h1
        · rw [h1]; exact List.mem_cons_self
        · exact List.mem_cons_of_mem _ h1
      · rcases List.mem_cons.mp hy with rfl | hy
        · exact h2
        · exact h3 y hy
    · rw [if_neg c] at h1 h2 h3 ⊢
      refine ⟨?_, h2, fun y hy => ?_⟩
      · rcases h1 with h1 | h1
        · exact .inl h1
        · exact .inr (List.mem_cons_of_mem _ h1)
      · rcases List.mem_cons.mp hy with rfl | hy
        · omega
        · exact h3 y hy
theorem minI_spec : ∀ (r : List Int) (m : Int), (minI m r = m ∨ minI m r ∈ r) ∧ minI m r ≤ m ∧ ∀ y ∈ r, minI m r ≤ y
  | [], m => ⟨.inl rfl, Int.le_refl _, fun _ h => by cases h⟩
  | i :: r, m => by
    obtain ⟨h1, h2, h3⟩ := minI_spec r (if i < m then i else m)
    unfold minI
    by_cases c : i < m
    · rw [if_pos c] at h1 h2 h3 ⊢
      refine ⟨.inr ?_, by omega, fun y hy => ?_⟩
      · rcases h1 with h1 | h1
        · rw [h1]; exact List.mem_cons_self
        · exact List.mem_cons_of_mem _ h1
      · rcases List.mem_cons.mp hy with rfl | hy
        · exact h2
        · exact h3 y hy
    · rw [if_neg c] at h1 h2 h3 ⊢
      refine ⟨?_, h2, fun y hy => ?_⟩
      · rcases h1 with h1 | h1
        · exact .inl h1
        · exact .inr (List.mem_cons_of_mem _ h1)
      · rcases List.mem_cons.mp hy with rfl | hy
        · omega
        · exact h3 y hy
theorem bs_maxL : BiS K (rMax K) (opBI .maxL) := by
  intro S L σ H ds xs z Q rep hv h q
  replace h : biMaxL ds = some z := h
  unfold biMaxL at h
  split at h
  · rename_i ds
    obtain ⟨x, rfl, hx⟩ := hv.one
    obtain ⟨p, vs, rfl, h1, r⟩ := hx.list
    split at h
    · rename_i i rr e
      cases h
      obtain ⟨_, e2⟩ := r.ints e
      subst e2
      refine ⟨p, i :: rr, rfl, h1, by simp, fun m hm hy => ?_⟩
      obtain ⟨a1, a2, a3⟩ := maxI_spec rr i
      have e : m = maxI i rr := by
        have b1 : m ≤ maxI i rr := by
          rcases List.mem_cons.mp hm with z | z
          · rw [z]; exact a2
          · exact a3 m z
        have b2 : maxI i rr ≤ m := by
          rcases a1 with z | z
          · rw [z]; exact hy i List.mem_cons_self
          · exact hy _ (List.mem_cons_of_mem _ z)
        omega
      rw [e]
      exact res_flat rep q (.int _)
    · cases h
  · cases h
theorem bs_minL : BiS K (rMin K) (opBI .minL) := by
  intro S L σ H ds xs z Q rep hv h q
  replace h : biMinL ds = some z := h
  unfold biMinL at h
  split at h
  · rename_i ds
    obtain ⟨x, rfl, hx⟩ := hv.one
    obtain ⟨p, vs, rfl, h1, r⟩ := hx.list
    split at h
    · rename_i i rr e
      cases h
      obtain ⟨_, e2⟩ := r.ints e
      subst e2
      refine ⟨p, i :: rr, rfl, h1, by simp, fun m hm hy => ?_⟩
      obtain ⟨a1, a2, a3⟩ := minI_spec rr i
      have e : m = minI i rr := by
        have b1 : minI i rr ≤ m := by
          rcases List.mem_cons.mp hm with z | z
          · rw [z]; exact a2
          · exact a3 m z
        have b2 : m ≤ minI i rr := by
          rcases a1 with z | z
          · rw [z]; exact hy i List.mem_cons_self
          · exact hy _ (List.mem_cons_of_mem _ z)
        omega
      rw [e]
      exact res_flat rep q (.int _)
    · cases h
  · cases h
theorem insI_perm (x : Int) : ∀ l : List Int, (insI x l).Perm (x :: l)
  | [] => .refl _
  | y :: r => by
    unfold insI
    split
    · exact .refl _
    · exact ((insI_perm x r).cons y).trans (.swap x y r)
theorem insI_mem {x y : Int} {l : List Int} (h : y ∈ insI x l) : y = x ∨ y ∈ l := List.mem_cons.mp ((insI_perm x l).mem_iff.mp h)
theorem insI_sorted (x : Int) : ∀ l : List Int, l.Pairwise (· ≤ ·) → (insI x l).Pairwise (· ≤ ·)
  | [], _ => by unfold insI; exact .cons (fun _ h => by cases h) .nil
  | y :: r, h => by
    unfold insI
    cases h with
    | cons h1 h2 =>
      split
      · rename_i c
        refine .cons (fun z hz => ?_) (.cons h1 h2)
        rcases List.mem_cons.mp hz with rfl | hz
        · exact c
        · exact Int.le_trans c (h1 z hz)
      · rename_i c
        refine .cons (fun z hz => ?_) (insI_sorted x r h2)
        rcases insI_mem hz with rfl | hz
        · omega
        · exact h1 z hz
theorem sortI_perm : ∀ l : List Int, (sortI l).Perm l
  | [] => .refl _
  | x :: r => (insI_perm x (sortI r)).trans ((sortI_perm r).cons x)
theorem sortI_sorted : ∀ l : List Int, (sortI l).Pairwise (· ≤ ·)
  | [] => .nil
  | x :: r => insI_sorted x _ (sortI_sorted r)
theorem bs_sorted : BiS K (rSortedI K) (opBI .sorted) := by
  intro S L σ H ds xs z Q rep hv h q
  replace h : biSorted ds = some z := h
  unfold biSorted at h
  split at h
  · rename_i ds
    obtain ⟨x, rfl, hx⟩ := hv.one
    obtain ⟨p, vs, rfl, h1, r⟩ := hx.list
    cases e : intsD ds with
    | none => rw [e] at h; cases h
    | some ns =>
      rw [e] at h
      cases h
      obtain ⟨_, e2⟩ := r.ints e
      subst e2
      refine ⟨p, ns, rfl, h1, fun ns' a hp hs => ?_⟩
      have e : ns' = sortI ns := (hp.trans (sortI_perm ns).symm).eq_of_pairwise (fun x y _ _ h1 h2 => Int.le_antisymm h1 h2) hs (sortI_sorted ns)
      rw [e]
      exact res_list rep q (.of_ints _) a
  · cases h
end
end Fw

/-! calls of defs; methods that change a local's object -/
namespace Fw
open PySem PySem.Spec L2
/-- what a call may have done: A is the lent object -/
structure FnN (A : Option Addr) (S : Ad) (H : Hp) (S' : Ad) (H' : Hp) : Prop where
  sub : ∀ a, S a → S' a
  new : ∀ a, S' a → S a ∨ H a = none ∨ A = some a
  keep : ∀ a o, H a = some o → A ≠ some a → H' a = some o
  there : ∀ a, H a ≠ none → H' a ≠ none
  trk : ∀ a, S' a → H' a ≠ none
/-- the lent object behind the call -/
def ZR (K : PySem.W.Frag) (S : Ad) (H : Hp) (p : Addr) : LVal → Prop
  | .imm d => Rp K S H d (.ref p)
  | .own m => ¬ S p ∧ OwnR K S H m p
/-- a returned value; Hs: the heap at the call -/
def RR1 (K : PySem.W.Frag) (Hs : Hp) (S : Ad) (H : Hp) (v : LVal) (x : V) : Prop := match v with
  | .imm d => Rp K S H d x
  | .own m => ∃ q, x = .ref q ∧ ¬ S q ∧ Hs q = none ∧ OwnR K S H m q
def ArgR (K : PySem.W.Frag) (S : Ad) (H : Hp) (lent : Bool) (A : Option Addr) (as : List LVal) (vs : List V) : Prop := match lent with
  | true => ∃ p m ds xs, A = some p ∧ as = .own m :: ds.map .imm ∧ vs = .ref p :: xs ∧ ¬ S p ∧ OwnR K S H m p ∧ RpA K S H ds xs
  | false => A = none ∧ ∃ ds, as = ds.map .imm ∧ RpA K S H ds vs
/-- a def's promise -/
def FnS (K : PySem.W.Frag) (ca : Nat → Value) (n : Nat) (f : List LVal → FRes) (lent : Bool) : Sp := fun vs H Q E => ∃ S A as, ArgR K S H lent A as vs ∧ as.length = n ∧ (∀ a, S a → H a ≠ none) ∧ match f as with
  | .ok v z => ∀ S' H' x, FnN A S H S' H' → (∀ p, A = some p → ∃ lv, z = some lv ∧ ZR K S' H' p lv) → RR1 K H S' H' v x → Q x H'
  | .err c z => ∀ S' H', FnN A S H S' H' → (∀ p, A = some p → ∃ lv, z = some lv ∧ ZR K S' H' p lv) → E (ca c) none H'
  | .bad => False
section
variable {F : Fx} {K : PySem.W.Frag} {X : Cx} {pos : Pos}
theorem FnN.nxt {S S' : Ad} {H H' : Hp} (n : FnN none S H S' H') {L : Loc} {σ : St} (ln : Bool) : Nxt ln L σ S H L σ S' H' :=
  ⟨n.sub, fun a h => (n.new a h).elim .inl fun z => z.elim (fun z => .inr (.inl z)) (fun z => by cases z), fun a o e _ => n.keep a o e (by simp), n.there, fun _ h => .inl h, fun _ => rfl⟩
theorem FnN.rep {S S' : Ad} {H H' : Hp} (n : FnN none S H S' H') {L : Loc} {σ : St} (rep : Rep K S L σ H) : Rep K S' L σ H' := by
  have st : ∀ a o, S a → H a = some o → H' a = some o := fun a o _ e => n.keep a o e (by simp)
  refine ⟨rep.len, fun i d e => ?_, fun i m e => ?_, rep.inj, n.trk⟩
  · obtain ⟨v, h1, h2⟩ := rep.imm i d e
    exact ⟨v, h1, h2.mono n.sub st⟩
  · obtain ⟨p, h1, h2, h3⟩ := rep.own i m e
    refine ⟨p, h1, fun z => ?_, h3.mono n.sub st fun o e => n.keep p o e (by simp)⟩
    rcases n.new p z with z | z | z
    · exact h2 z
    · exact h3.so z
    · cases z
/-- the object of slot i, at p, has changed -/
theorem put_ok {S S' : Ad} {H H' : Hp} {L : Loc} {σ : St} {i : Nat} {p : Addr} {m : MO} {z : LVal} (rep : Rep K S L σ H) (e : getL L i = some (.own m)) (hp : σ[i]? = some (some (.ref p))) (n : FnN (some p) S H S' H') (hz : ZR K S' H' p z) :
    (∀ ln, Nxt ln L σ S H (L.set i (some z)) σ S' H') ∧ Rep K S' (L.set i (some z)) σ H' ∧ ∀ a, OwnA (L.set i (some z)) σ a → OwnA L σ a := by
  have e' := getL_some e
  have hi : i < L.length := (List.getElem?_eq_some_iff.mp e').1
  have oA : OwnA L σ p := ⟨i, m, e', hp⟩
  have nS : ¬ S p := fun z => rep.notOwn z oA
  have neA : ∀ a, ¬ OwnA L σ a → (some p : Option Addr) ≠ some a := fun a h z => h (by cases z; exact oA)
  have st : ∀ a o, S a → H a = some o → H' a = some o := fun a o h e => n.keep a o e (neA a (rep.notOwn h))
  have getSet : ∀ {j : Nat} {w : Option LVal}, (L.set i (some z))[j]? = some w → (j = i ∧ w = some z) ∨ (j ≠ i ∧ L[j]? = some w) := fun {j w} h => by
    by_cases c : i = j
    · subst c
      rw [List.getElem?_set_self hi] at h
      exact .inl ⟨rfl, by cases h; rfl⟩
    · rw [List.getElem?_set_ne c] at h
      exact .inr ⟨fun z => c z.symm, h⟩
  have other : ∀ {j : Nat} {m' : MO} {q : Addr}, j ≠ i → L[j]? = some (some (LVal.own m')) → σ[j]? = some (some (V.ref q)) → q ≠ p := fun {j m' q} hj h1 h2 c => by
    subst c
    exact hj (rep.inj j i m' m q h1 e' h2 hp)
  have own1 : ∀ a, OwnA (L.set i (some z)) σ a → OwnA L σ a := fun a ⟨j, m', h1, h2⟩ => by
    rcases getSet h1 with ⟨c, _⟩ | ⟨_, c⟩
    · subst c
      rw [hp] at h2
      cases h2
      exact oA
    · exact ⟨j, m', c, h2⟩
  refine ⟨fun ln => ⟨n.sub, fun a h => (n.new a h).elim .inl fun w => w.elim (fun w => .inr (.inl w)) (fun w => .inr (.inr (by cases w; exact oA))), fun a o h no => n.keep a o h (neA a no), n.there, fun a h => .inl (own1 a h), fun _ => rfl⟩, ⟨by rw [List.length_set]; exact rep.len, fun j d h => ?_, fun j m' h => ?_, fun j k m1 m2 q h1 h2 h3 h4 => ?_, n.trk⟩, own1⟩
  · rcases getSet h with ⟨c, w⟩ | ⟨_, c⟩
    · subst c
      cases w
      exact ⟨_, hp, hz⟩
    · obtain ⟨v, q1, q2⟩ := rep.imm j d c
      exact ⟨v, q1, q2.mono n.sub st⟩
  · rcases getSet h with ⟨c, w⟩ | ⟨hj, c⟩
    · subst c
      cases w
      exact ⟨p, hp, hz.1, hz.2⟩
    · obtain ⟨q, q1, q2, q3⟩ := rep.own j m' c
      have hne := other hj c q1
      refine ⟨q, q1, fun w => ?_, q3.mono n.sub st fun o e => n.keep q o e (fun z => hne (by cases z; rfl))⟩
      rcases n.new q w with w | w | w
      · exact q2 w
      · exact q3.so w
      · cases w; exact hne rfl
  · rcases getSet h1 with ⟨c1, w1⟩ | ⟨c1, w1⟩ <;> rcases getSet h2 with ⟨c2, w2⟩ | ⟨c2, w2⟩
    · rw [c1, c2]
    · subst c1
      rw [hp] at h3
      cases h3
      exact absurd rfl (other c2 w2 h4)
    · subst c2
      rw [hp] at h4
      cases h4
      exact absurd rfl (other c1 w1 h3)
    · exact rep.inj j k m1 m2 q w1 w2 h3 h4
def LVal.toP : LVal → PVal
  | .imm d => .imm d
  | .own m => .own m
theorem rr_rel {S S' : Ad} {H H' : Hp} {L L' : Loc} {σ : St} {v : LVal} {x : V} (rep : Rep K S L σ H) (n : ∀ a, OwnA L' σ a → OwnA L σ a) (r : RR1 K H S' H' v x) : RelP K H S' L' σ H' v.toP x := by
  cases v with
  | imm d => exact r
  | own m =>
    obtain ⟨q, e, h1, h2, h3⟩ := r
    exact ⟨q, e, h1, fun z => rep.ownSome (n q z) h2, h2, h3⟩
theorem callK_eq {C : Calls} {f : Nat} {ds : List D} {L : Loc} : callK C f ds L = match C f (ds.map .imm) with
    | .ok v _ => .ok v.toP L
    | .err c _ => .err c L
    | .bad => .bad := by
  unfold callK
  cases C f (ds.map .imm) with
  | ok v z => cases v <;> rfl
  | err c z => rfl
  | bad => rfl
theorem FnS.len {n : Nat} {ca : Nat → Value} {f : List LVal → FRes} {lent : Bool} {vs : List V} {H : Hp} {Q : VK} {E : XK} (h : FnS K ca n f lent vs H Q E) : vs.length = n := by
  obtain ⟨S, A, as, h, hl, _⟩ := h
  cases lent with
  | true =>
    obtain ⟨p, m, ds, xs, _, rfl, rfl, _, _, r⟩ := h
    have := r.length
    simp at hl ⊢
    omega
  | false =>
    obtain ⟨_, ds, rfl, r⟩ := h
    have := r.length
    simp at hl
    omega
theorem Go.mono {α β : Type} {f : Loc → Res α} {R : St → RR α β} {σ : St} {H : Hp} {Q Q' : β → Hp → Prop} (h : ∀ b H, Q b H → Q' b H) (g : Go F f R σ H Q) : Go F f R σ H Q' := by
  obtain ⟨S, L, rep, g⟩ := g
  refine ⟨S, L, rep, ?_⟩
  cases e : f L with
  | ok a L' => rw [e] at g; exact fun S' H' b n r rel => h _ _ (g S' H' b n r rel)
  | err c L' => rw [e] at g; exact g
  | bad => rw [e] at g; exact g
/-- f(..), the arguments as data -/
theorem re_call {C : Calls} {k n f : Nat} {a : Addr} {fd : FuncData} {ps : List Str} {x : Str} {p : Pos} {e : Expr} {es : List Expr} {r : FA} (tk : Takes X F.W)
    (G : FnOk X.prog X.w X.K X.mg X.base (L2.CX X.prog X.w) k a fd ps (FnS F.K F.ca n (C f) false)) (hC : ∀ as, C f as ≠ .bad → as.length = n) (hr : Room k X.A) (hg : Gl X x) (hm : X.mg x = some (.ref a)) (hk : PySem.W.keepIn X.K (.ref a) = true) (hb : Binds X.K fd ps [])
    (ha : PA X (e :: es) (RA F r)) (hdb : (x == ("__debug__" : Str)) = false) (he : starEach (e :: es) X.env = (false, eval e X.env) :: starEach es X.env) (hpl : (backTo pos (starEach es X.env)).any (·.1) = false) :
    PE X (.Call (.Name x p) (e :: es) [] pos) (RE F (callF C f r)) := by
  refine (pe_callS (E := WE F.W) G hr hg hm hk hb (fun σ => passAt tk σ) ha hdb he hpl).imp (kept_ok (R := rE F) (op := fun σ xs H1 Q => FnS F.K F.ca n (C f) false xs H1 Q (WE F.W σ)) ?_)
  intro S0 L0 H0 S L σ H ds xs Q nx rep rd h
  rw [callK_eq] at h
  refine ⟨S, none, ds.map .imm, ⟨rfl, ds, rfl, rd⟩, hC _ fun z => ?_, rep.trk, ?_⟩
  · rw [z] at h; exact h.elim
  · cases q : C f (ds.map .imm) with
    | bad => rw [q] at h; exact h.elim
    | err c z =>
      rw [q] at h
      exact fun S' H' n' _ => h S' H' (nx.trans (n'.nxt _)) (n'.rep rep)
    | ok v z =>
      rw [q] at h
      exact fun S' H' x n' _ rr => h S' H' x (nx.trans (n'.nxt _)) (n'.rep rep) ((rr_rel rep (fun _ h => h) rr).back nx.there)
theorem callTK_eq {C : Calls} {f i : Nat} {ds : List D} {L : Loc} {m : MO} (h : getL L i = some (.own m)) : callTK C f i ds L = match C f (.own m :: ds.map .imm) with
    | .ok v (some z) => .ok v.toP (L.set i (some z))
    | .err c (some z) => .err c (L.set i (some z))
    | _ => .bad := by
  unfold callTK
  simp only [h]
  cases q : C f (.own m :: ds.map .imm) with
  | ok v z => cases v <;> cases z <;> rfl
  | err c z => cases z <;> rfl
  | bad => rfl
/-- f(tape, ..): the local's object lent -/
theorem re_callT {C : Calls} {k n f i : Nat} {a : Addr} {fd : FuncData} {ps : List Str} {x y : Str} {p py : Pos} {es : List Expr} {r : FA} (tk : Takes X F.W)
    (G : FnOk X.prog X.w X.K X.mg X.base (L2.CX X.prog X.w) k a fd ps (FnS F.K F.ca n (C f) true)) (hC : ∀ as, C f as ≠ .bad → as.length = n) (hr : Room k X.A) (hg : Gl X x) (hm : X.mg x = some (.ref a)) (hk : PySem.W.keepIn X.K (.ref a) = true) (hb : Binds X.K fd ps [])
    (hy : PE X (.Name y py) (tVar i)) (ha : PA X es (RA F r)) (hdb : (x == ("__debug__" : Str)) = false) (hpl : (backTo pos (starEach es X.env)).any (·.1) = false) :
    PE X (.Call (.Name x p) (.Name y py :: es) [] pos) (RE F (callTF C f i r)) := by
  refine (pe_callS (E := WE F.W) G hr hg hm hk hb (fun σ => passAt tk σ) (pa_cons hy ha) hdb rfl hpl).imp fun σ H Q q => ?_
  have qq := q
  obtain ⟨S, L, rep, q⟩ := qq
  unfold callTF at q
  cases e1 : getL L i with
  | none => simp only [e1] at q; exact q.elim
  | some v =>
    cases v with
    | imm d => simp only [e1] at q; exact q.elim
    | own m =>
      simp only [e1] at q
      obtain ⟨p0, hp0, _, _⟩ := rep.own i m (getL_some e1)
      refine ⟨_, hp0, ?_⟩
      refine Go.mono (fun xs H1 w => w p0 hp0) (kept_ok (R := rE F) (op := fun σ xs H1 Q => ∀ p0, σ[i]? = some (some (V.ref p0)) → FnS F.K F.ca n (C f) true (.ref p0 :: xs) H1 Q (WE F.W σ)) ?_ σ H Q ⟨S, L, rep, q⟩)
      intro S0 L0 H0 S L σ H ds xs Q nx rep rd h p0 hp0
      cases e2 : getL L i with
      | none => unfold callTK at h; rw [e2] at h; exact h.elim
      | some v =>
        cases v with
        | imm d => unfold callTK at h; rw [e2] at h; exact h.elim
        | own m =>
          rw [callTK_eq e2] at h
          obtain ⟨p1, hp1, nS, ow⟩ := rep.own i m (getL_some e2)
          rw [hp0] at hp1
          cases hp1
          refine ⟨S, some p0, .own m :: ds.map .imm, ⟨p0, m, ds, xs, rfl, rfl, rfl, nS, ow, rd⟩, hC _ fun z => ?_, rep.trk, ?_⟩
          · rw [z] at h; exact h.elim
          · cases q : C f (.own m :: ds.map .imm) with
            | bad => rw [q] at h; exact h.elim
            | err c z =>
              rw [q] at h
              cases z with
              | none => exact h.elim
              | some z =>
                intro S' H' n' hz
                obtain ⟨lv, e3, hz⟩ := hz p0 rfl
                cases e3
                obtain ⟨q1, q2, _⟩ := put_ok rep e2 hp0 n' hz
                exact h S' H' (nx.trans (q1 _)) q2
            | ok v z =>
              rw [q] at h
              cases z with
              | none => exact h.elim
              | some z =>
                intro S' H' x n' hz rr
                obtain ⟨lv, e3, hz⟩ := hz p0 rfl
                cases e3
                obtain ⟨q1, q2, q3⟩ := put_ok rep e2 hp0 n' hz
                exact h S' H' x (nx.trans (q1 _)) q2 ((rr_rel rep q3 rr).back nx.there)
/-! ### methods that change -/
/-- a local's list changed to ws -/
theorem upd_lst {S : Ad} {H : Hp} {L : Loc} {σ : St} {i : Nat} {p : Addr} {m : MO} {es : List D} {ws : List V} (rep : Rep K S L σ H) (e : getL L i = some (.own m)) (hp : σ[i]? = some (some (.ref p))) (r : RpA K S H es ws) :
    (∀ ln, Nxt ln L σ S H (L.set i (some (.own (.lst es)))) σ S (upd H p (.lst ws))) ∧ Rep K S (L.set i (some (.own (.lst es)))) σ (upd H p (.lst ws)) := by
  obtain ⟨p', h1, h2, h3⟩ := rep.own i m (getL_some e)
  rw [hp] at h1
  cases h1
  have n : FnN (some p) S H S (upd H p (.lst ws)) := ⟨fun _ h => h, fun _ h => .inl h, fun a o e hn => by rw [upd_ne (fun z => hn (by rw [z]))]; exact e, fun a h => by
    by_cases z : a = p
    · rw [z, upd_same]; simp
    · rw [upd_ne z]; exact h, fun a h => by rw [upd_ne (show a ≠ p from fun z => h2 (z ▸ h))]; exact rep.trk a h⟩
  obtain ⟨q1, q2, _⟩ := put_ok (z := .own (.lst es)) rep e hp n ⟨h2, ws, upd_same, r.mono (fun _ h => h) fun a o h e => by rw [upd_ne (show a ≠ p from fun z => h2 (z ▸ h))]; exact e⟩
  exact ⟨q1, q2⟩
theorem tyV_lst {S : Ad} {H : Hp} {L : Loc} {σ : St} {i : Nat} {ds : List D} (rep : Rep K S L σ H) (e : getL L i = some (.own (.lst ds))) : ∃ p, σ[i]? = some (some (V.ref p)) ∧ tyV K "list" (.ref p) H := by
  obtain ⟨p, h1, h2, vs, h3, _⟩ := rep.own i _ (getL_some e)
  exact ⟨p, h1, .inl ⟨rfl, vs, SqL.of h3⟩⟩
/-- x.m(e): e as data, then the rule rr at the list -/
theorem re_at {k : MO → D → Option (D × MO)} {i : Nat} {x name : Str} {px apos : Pos} {e : Expr} {id : String} {f : FE} {rr : V → List V → Hp → VK → Prop} (hK : F.K = X.K) (slot : Slot "list" name id) (hty : typeOf (.builtin id) = pure (.type "method_descriptor")) (hm : MtR X id rr)
    (hs : ∀ (S : Ad) (H : Hp) (p : Addr) (ds : List D) (vs : List V) (d : D) (y : V) (z : D) (m' : MO) (Q : VK), H p = some (.lst vs) → RpA F.K S H ds vs → Rp F.K S H d y → k (.lst ds) d = some (z, m') → (∀ es ws w, m' = .lst es → RpA F.K S H es ws → Rp F.K S H z w → Q w (upd H p (.lst ws))) → rr (.ref p) [y] H Q)
    (hlst : ∀ m d z m', k m d = some (z, m') → (∃ ds, m = .lst ds) ∧ ∃ es, m' = .lst es) (hx : PE X (.Name x px) (tVar i)) (he : PE X e (RE F f)) (hst : starEach (e :: []) X.env = (false, eval e X.env) :: starEach [] X.env)
    (hbase : attributeBase (.Name x px) name X.env (eval (.Name x px) X.env) = eval (.Name x px) X.env) (hline : (apos.endLine == pos.line) = true)
    (hfew : ((backTo pos (starEach [e] X.env)).all (fun x => !x.1) && (backToKw pos (keywordEach [] X.env)).all (fun x => x.1.isSome) && decide (([e] : List Expr).length + ([] : List Keyword).length + (if ([] : List Keyword).isEmpty then 0 else 1) < 30)) = true) :
    PE X (.Call (.Attribute (.Name x px) name apos) [e] [] pos) (RE F (atF i f k)) := by
  refine (pe_bm PySem.F.plainAttrs_list slot hty hm hx (pa_cons he pa_nil hst) hbase hfew hline hst rfl).imp fun σ H Q q => ?_
  have qq := q
  obtain ⟨S, L, rep, q⟩ := qq
  unfold atF at q
  cases e1 : getL L i with
  | none => simp only [e1] at q; exact q.elim
  | some v =>
    cases v with
    | imm d => simp only [e1] at q; exact q.elim
    | own m =>
      cases m with
      | dic l => simp only [e1] at q; exact q.elim
      | lst ds0 =>
        simp only [e1] at q
        obtain ⟨p0, hp0, ty0⟩ := tyV_lst rep e1
        refine ⟨_, hp0, hK ▸ ty0, ?_⟩
        have q : Go F (fun L => (f L).bind fun p L1 => (keepD L1 p).bind fun d L2 => match getL L2 i with
          | some (.own m) => match k m d with
            | some (x, m') => .ok (.imm x) (L2.set i (some (.own m')))
            | none => .bad
          | _ => .bad) (rE F) σ H Q := ⟨S, L, rep, q⟩
        refine go1 q fun S L p L1 S1 H1 y rep n1 rep1 rel h => ?_
        show rr (.ref p0) [y] H1 Q
        cases e2 : keepD L1 p with
        | bad => simp only [e2, Res.bind] at h; exact h.elim
        | err c L2 => exact absurd e2 keepD_noerr
        | ok d L2 =>
          simp only [e2, Res.bind] at h
          obtain ⟨S2, n2, rep2, r2, _⟩ := keepD_ok n1 rep1 rel e2
          cases e3 : getL L2 i with
          | none => simp only [e3] at h; exact h.elim
          | some v =>
            cases v with
            | imm d => simp only [e3] at h; exact h.elim
            | own m =>
              simp only [e3] at h
              cases e4 : k m d with
              | none => simp only [e4] at h; exact h.elim
              | some zz =>
                obtain ⟨z, m'⟩ := zz
                simp only [e4] at h
                obtain ⟨⟨ds, rfl⟩, es, rfl⟩ := hlst m d z m' e4
                obtain ⟨p1, hp1, nS, vs, hv, rv⟩ := rep2.own i _ (getL_some e3)
                rw [hp0] at hp1
                cases hp1
                refine hs S2 H1 p0 ds vs d y z _ Q hv rv r2 e4 fun es' ws w ee rw' rz => ?_
                cases ee
                obtain ⟨q1, q2⟩ := upd_lst rep2 e3 hp0 rw'
                exact h _ _ w (n2.trans (q1 _)) q2 (Rp.next (q1 false) rep2 rz)
end
end Fw

/-! what a loop walks; targets; comprehensions -/
namespace Fw
open PySem PySem.Spec L2
/-- an item of a walk: data, or a new pair -/
def ItemR (K : PySem.W.Frag) (S : Ad) (H : Hp) (x : V) (H' : Hp) (d : D) : Prop :=
  (H' = H ∧ Rp K S H d x) ∨ ∃ T a b x1 y1, x = .ref T ∧ H T = none ∧ H' = upd H T (.tup [x1, y1]) ∧ d = .tuple [a, b] ∧ Rp K S H a x1 ∧ Rp K S H b y1
/-- J walks ds while what was data at H0 stays -/
def WalkD (K : PySem.W.Frag) (S : Ad) (H0 : Hp) (ds : List D) (J : It) : Prop := ∃ (G : Hp → Prop) (Y : Nat → Hp → V → Hp → Prop), Walk J ds.length G Y ∧ (∀ H, (∀ a o, S a → H0 a = some o → H a = some o) → G H) ∧
  ∀ i H x H', (∀ a o, S a → H0 a = some o → H a = some o) → i < ds.length → Y i H x H' → ∃ d, ds[i]? = some d ∧ ItemR K S H x H' d
def rI (F : Fx) : St → RR (List D) It := fun σ Hs S L H ds J => WalkD F.K S H ds J
abbrev RI (F : Fx) (f : FI) : TI := Go F f (rI F)
section
variable {F : Fx} {K : PySem.W.Frag} {X : Cx} {pos : Pos} {tg : Expr}
theorem walkD_list {S : Ad} {H : Hp} {a : Addr} {ds : List D} {vs : List V} (k : KpL K S H a vs) (r : RpA K S H ds vs) : WalkD K S H ds (Itl K a) := by
  refine ⟨fun H => SqL K H a vs, YAt vs, by rw [r.length]; exact walk_list, fun H' st => (k.mono (fun _ h => h) st).sq, fun i H' x H'' st hi y => ?_⟩
  obtain ⟨rfl, e⟩ := y
  obtain ⟨d, h1, h2⟩ := r.getV e
  exact ⟨d, h1, .inl ⟨rfl, h2.mono (fun _ h => h) st⟩⟩
theorem walkD_tup {S : Ad} {H : Hp} {a : Addr} {ds : List D} {vs : List V} (k : KpT K S H a vs) (r : RpA K S H ds vs) : WalkD K S H ds (Itt K a) := by
  refine ⟨fun H => SqT K H a vs, YAt vs, by rw [r.length]; exact walk_tup, fun H' st => (k.mono (fun _ h => h) st).sq, fun i H' x H'' st hi y => ?_⟩
  obtain ⟨rfl, e⟩ := y
  obtain ⟨d, h1, h2⟩ := r.getV e
  exact ⟨d, h1, .inl ⟨rfl, h2.mono (fun _ h => h) st⟩⟩
/-- a list or a tuple -/
theorem ri_seq {e : Expr} {f : FE} (hK : F.K = X.K) (he : PE X e (RE F f)) : PI X tg e (RI F (seqI f)) := by
  refine ⟨fun pins s σ H R I q => ?_⟩
  have w : RE F f σ H fun x H1 => (∃ a, x = .ref a ∧ (∃ xs, SqL X.K H1 a xs) ∧ R (Itl X.K a) H1) ∨ (∃ a, x = .ref a ∧ (∃ xs, SqT X.K H1 a xs) ∧ R (Itt X.K a) H1) := by
    refine go1 q fun S L p L1 S1 H1 x rep n1 rep1 rel h => ?_
    cases e2 : keepD L1 p with
    | bad => simp only [e2, Res.bind] at h; exact h.elim
    | err c L2 => exact absurd e2 keepD_noerr
    | ok d L2 =>
      simp only [e2, Res.bind] at h
      obtain ⟨S2, n2, rep2, r2, _⟩ := keepD_ok n1 rep1 rel e2
      cases r2 with
      | lst k r =>
        simp only [seqD, ofOpt] at h
        exact .inl ⟨_, rfl, ⟨_, hK ▸ k.sq⟩, h _ _ _ n2 rep2 (hK ▸ walkD_list k r)⟩
      | tup k r =>
        simp only [seqD, ofOpt] at h
        exact .inr ⟨_, rfl, ⟨_, hK ▸ k.sq⟩, h _ _ _ n2 rep2 (hK ▸ walkD_tup k r)⟩
      | _ => exact h.elim
  refine thn (he.run pins s σ H _ I w) fun v s1 ⟨x, H1, I1, r1, q1⟩ => ?_
  rcases q1 with q1 | q1
  · obtain ⟨a, e1, ⟨xs, hq⟩, q⟩ := q1
    subst e1
    cases r1
    obtain ⟨its, rv, p, hz⟩ := I1.list hq
    refine wpAny_pyIter_list p.isList ?_
    refine ⟨s1.heap.objs.size, [s1.heap.objs.size], _, _, H1, rfl, I1.kept (t' := s1.toks) fun b o e => Heap.get?_push_of_some _ e, turn_list a _, ⟨_, Heap.get?_push_size _ rfl, rfl, rfl⟩, fun b hb => ?_, q⟩
    have e : b = s1.heap.objs.size := by simpa using hb
    subst e
    exact I1.fpOk (Nat.le_refl _) (I1.hok.fresh (Nat.le_refl _))
  · obtain ⟨a, e1, ⟨xs, hq⟩, q⟩ := q1
    subst e1
    cases r1
    obtain ⟨its, rv, p, hz⟩ := I1.tuple hq
    refine wpAny_pyIter_tuple (show s1.heap.IsTuple a its.toArray from p) ?_
    refine ⟨s1.heap.objs.size, [s1.heap.objs.size], _, _, H1, rfl, I1.kept (t' := s1.toks) fun b o e => Heap.get?_push_of_some _ e, turn_tuple a _, ⟨_, Heap.get?_push_size _ rfl, rfl, rfl⟩, fun b hb => ?_, q⟩
    have e : b = s1.heap.objs.size := by simpa using hb
    subst e
    exact I1.fpOk (Nat.le_refl _) (I1.hok.fresh (Nat.le_refl _))
/-- ranges -/
theorem walkD_fn {S : Ad} {H : Hp} {J : It} {n : Nat} {f : Nat → Int} (w : Walk J n (fun _ => True) (YFn fun i => .int (f i))) : WalkD K S H ((List.range n).map fun k => .int (f k)) J := by
  have hl : ((List.range n).map fun k => (PyData.int (f k))).length = n := by rw [List.length_map, List.length_range]
  refine ⟨fun _ => True, YFn fun i => .int (f i), by rw [hl]; exact w, fun _ _ => trivial, fun i H' x H'' st hi y => ?_⟩
  obtain ⟨rfl, rfl⟩ := y
  rw [hl] at hi
  exact ⟨.int (f i), by simp [hi], .inl ⟨rfl, .int _⟩⟩
theorem VwA.length {S : Ad} {H : Hp} : ∀ {ds : List D} {xs : List V}, VwA K S H ds xs → ds.length = xs.length
  | _, _, .nil => rfl
  | _, _, .cons _ t => by rw [List.length_cons, List.length_cons, VwA.length t]
theorem VwA.three {S : Ad} {H : Hp} {d e c : D} {xs : List V} (h : VwA K S H [d, e, c] xs) : ∃ x y z, xs = [x, y, z] ∧ Vw K S H d x ∧ Vw K S H e y ∧ Vw K S H c z := by
  cases h with
  | cons h t =>
    obtain ⟨y, z, rfl, h2, h3⟩ := t.two
    exact ⟨_, _, _, rfl, h, h2, h3⟩
theorem ri_rng1 {a : Expr} {p : Pos} {r : FA} (hg : Gl X "range") (hm : X.mg "range" = none) (ha : PA X [a] (RA F r)) (hs : starEach [a] X.env = [(false, eval a X.env)]) : PI X tg (.Call (.Name "range" p) [a] [] pos) (RI F (rngI1 r)) := by
  refine (pi_range1 hg hm ha hs).imp fun σ H Q q => ?_
  refine go1 q fun S L ps L1 S1 H1 xs rep n1 rep1 rels h => ?_
  split at h
  · rename_i j e
    obtain ⟨x, rfl, hx⟩ := (rels.view rep1 e).one
    unfold rng1 at h
    split at h
    · rename_i c
      simp only [ofOpt] at h
      exact ⟨j, by rw [hx.int], by omega, by omega, h _ _ _ n1 rep1 (walkD_fn (f := fun k => 0 + (k : Int)) walk_range)⟩
    · exact h.elim
  · exact h.elim
theorem ri_rng2 {a b : Expr} {p : Pos} {r : FA} (hg : Gl X "range") (hm : X.mg "range" = none) (ha : PA X [a, b] (RA F r)) (hs : starEach [a, b] X.env = [(false, eval a X.env), (false, eval b X.env)]) (hs2 : starEach [b] X.env = [(false, eval b X.env)]) : PI X tg (.Call (.Name "range" p) [a, b] [] pos) (RI F (rngI2 r)) := by
  refine (pi_range2 hg hm ha hs hs2).imp fun σ H Q q => ?_
  refine go1 q fun S L ps L1 S1 H1 xs rep n1 rep1 rels h => ?_
  split at h
  · rename_i i j e
    obtain ⟨x, y, rfl, hx, hy⟩ := (rels.view rep1 e).two
    unfold rng2 at h
    split at h
    · rename_i c
      simp only [ofOpt] at h
      exact ⟨i, j, by rw [hx.int, hy.int], by omega, h _ _ _ n1 rep1 (walkD_fn (f := fun k => i + (k : Int)) walk_range)⟩
    · exact h.elim
  · exact h.elim
theorem rangeSize_nn (i j c : Int) : 0 ≤ Builtin.Range.rangeSize i j c := by
  unfold Builtin.Range.rangeSize
  split
  · split
    · rename_i h1 h2
      have := Int.ediv_nonneg (a := j - i - 1) (b := c) (by omega) (by omega)
      omega
    · omega
  · split
    · rename_i h1 h2
      have := Int.ediv_nonneg (a := i - j - 1) (b := -c) (by omega) (by omega)
      omega
    · omega
theorem ri_rng3 {a b c : Expr} {p : Pos} {r : FA} (hg : Gl X "range") (hm : X.mg "range" = none) (ha : PA X [a, b, c] (RA F r)) (hs : starEach [a, b, c] X.env = (false, eval a X.env) :: starEach [b, c] X.env) (hpl : (backTo pos (starEach [b, c] X.env)).any (·.1) = false) : PI X tg (.Call (.Name "range" p) [a, b, c] [] pos) (RI F (rngI3 r)) := by
  refine (pi_range3 hg hm ha hs hpl).imp fun σ H Q q => ?_
  refine go1 q fun S L ps L1 S1 H1 xs rep n1 rep1 rels h => ?_
  split at h
  · rename_i i j c e
    obtain ⟨x, y, z, rfl, hx, hy, hz⟩ := (rels.view rep1 e).three
    unfold rng3 at h
    split at h
    · rename_i w
      simp only [ofOpt] at h
      have hn := rangeSize_nn i j c
      exact ⟨i, j, c, (Builtin.Range.rangeSize i j c).toNat, by rw [hx.int, hy.int, hz.int], ⟨w.1, w.2.1, w.2.2, by omega⟩, h _ _ _ n1 rep1 (walkD_fn (f := fun k => i + (k : Int) * c) walk_rangeC)⟩
    · exact h.elim
  · exact h.elim
/-! pairs -/
theorem zipD_length : ∀ (xs ys : List D), (zipD xs ys).length = min xs.length ys.length
  | [], ys => by cases ys <;> simp [zipD]
  | x :: xs, [] => by simp [zipD]
  | x :: xs, y :: ys => by simp only [zipD, List.length_cons, zipD_length xs ys]; omega
theorem zipD_get : ∀ (xs ys : List D) (i : Nat) (x y : D), xs[i]? = some x → ys[i]? = some y → (zipD xs ys)[i]? = some (.tuple [x, y])
  | x :: xs, y :: ys, 0, _, _, h1, h2 => by simp at h1 h2; subst h1 h2; rfl
  | x :: xs, y :: ys, i + 1, a, b, h1, h2 => by
    simp only [zipD, List.getElem?_cons_succ] at h1 h2 ⊢
    exact zipD_get xs ys i a b h1 h2
  | [], ys, i, _, _, h1, _ => by simp at h1
  | x :: xs, [], i, _, _, _, h2 => by simp at h2
theorem pair_item {S : Ad} {H0 H H' : Hp} {x : V} {i : Nat} {fx fy : Nat → Option V} {ds : List D} (st : ∀ a o, S a → H0 a = some o → H a = some o) (y : YPair fx fy i H x H')
    (h : ∀ u v, fx i = some u → fy i = some v → ∃ a b, ds[i]? = some (.tuple [a, b]) ∧ Rp K S H0 a u ∧ Rp K S H0 b v) : ∃ d, ds[i]? = some d ∧ ItemR K S H x H' d := by
  obtain ⟨T, u, v, h1, h2, h3, h4, h5⟩ := y
  obtain ⟨a, b, e1, e2, e3⟩ := h u v h4 h5
  exact ⟨_, e1, .inr ⟨T, a, b, u, v, h1, h2, h3, rfl, e2.mono (fun _ h => h) st, e3.mono (fun _ h => h) st⟩⟩
theorem ri_zip {a b : Expr} {elts : List Expr} {kk : Nat} {p tpos : Pos} {r : FA} (hK : F.K = X.K) (hg : Gl X "zip") (hm : X.mg "zip" = none) (ha : PA X [a, b] (RA F r)) (hs : starEach [a, b] X.env = (false, eval a X.env) :: starEach [b] X.env) (hpl : (backTo pos (starEach [b] X.env)).any (·.1) = false) :
    PI X (.Tuple elts kk tpos) (.Call (.Name "zip" p) [a, b] [] pos) (RI F (zipI r)) := by
  refine (RZ.pi_zipA hg hm ha hs hpl).imp (kept_ok (R := rI F) (op := fun _ vs H1 R => ∃ a b xs ys, vs = [.ref a, .ref b] ∧ ((SqL X.K H1 a xs ∧ SqL X.K H1 b ys ∧ R (Itz X.K a b) H1) ∨ (SqT X.K H1 a xs ∧ SqT X.K H1 b ys ∧ R (RZ.ItzT X.K a b) H1))) ?_)
  intro S0 L0 H0 S L σ H ds xs Q nx rep rd h
  split at h
  · rename_i es fs
    cases rd with
    | cons r1 t =>
      cases t with
      | cons r2 t =>
        cases t
        cases r1 with
        | lst k1 q1 =>
          cases r2 with
          | lst k2 q2 =>
            rename_i a vs b ws
            refine ⟨a, b, vs, ws, rfl, .inl ⟨hK ▸ k1.sq, hK ▸ k2.sq, h _ _ _ nx rep ?_⟩⟩
            refine ⟨fun H => SqL X.K H a vs ∧ SqL X.K H b ws, YPair (fun i => vs[i]?) (fun i => ws[i]?), walk_zip (by rw [zipD_length, q1.length, q2.length]), fun H' st => ⟨hK ▸ (k1.mono (fun _ h => h) st).sq, hK ▸ (k2.mono (fun _ h => h) st).sq⟩, fun i H' x H'' st hi y => pair_item st y fun u v e1 e2 => ?_⟩
            obtain ⟨d1, w1, w2⟩ := q1.getV e1
            obtain ⟨d2, w3, w4⟩ := q2.getV e2
            exact ⟨d1, d2, zipD_get _ _ _ _ _ w1 w3, w2, w4⟩
  · rename_i es fs
    cases rd with
    | cons r1 t =>
      cases t with
      | cons r2 t =>
        cases t
        cases r1 with
        | tup k1 q1 =>
          cases r2 with
          | tup k2 q2 =>
            rename_i a vs b ws
            refine ⟨a, b, vs, ws, rfl, .inr ⟨hK ▸ k1.sq, hK ▸ k2.sq, h _ _ _ nx rep ?_⟩⟩
            refine ⟨fun H => SqT X.K H a vs ∧ SqT X.K H b ws, YPair (fun i => vs[i]?) (fun i => ws[i]?), ?_, fun H' st => ⟨hK ▸ (k1.mono (fun _ h => h) st).sq, hK ▸ (k2.mono (fun _ h => h) st).sq⟩, fun i H' x H'' st hi y => pair_item st y fun u v e1 e2 => ?_⟩
            · have hn : (zipD es fs).length = min vs.length ws.length := by rw [zipD_length, q1.length, q2.length]
              rw [hn]
              refine ⟨fun i _ hi q => ?_, fun _ q => ⟨vs, ws, q.1, q.2, by omega⟩, fun i H v H' _ q y => ?_⟩
              · have h1 : i < vs.length := by omega
                have h2 : i < ws.length := by omega
                exact ⟨vs, ws, vs[i], ws[i], q.1, q.2, by simp [h1], by simp [h2]⟩
              · obtain ⟨T, x, z, h1, h2, h3, h4, h5⟩ := y
                exact ⟨T, x, z, h1, h2, h3, h4 vs q.1, h5 ws q.2⟩
            · obtain ⟨d1, w1, w2⟩ := q1.getV e1
              obtain ⟨d2, w3, w4⟩ := q2.getV e2
              exact ⟨d1, d2, zipD_get _ _ _ _ _ w1 w3, w2, w4⟩
  · exact h.elim
theorem enuD_length : ∀ (xs : List D) (n : Nat), (enuD n xs).length = xs.length
  | [], n => rfl
  | x :: xs, n => by rw [enuD, List.length_cons, List.length_cons, enuD_length xs (n + 1)]
theorem enuD_get : ∀ (xs : List D) (n i : Nat) (x : D), xs[i]? = some x → (enuD n xs)[i]? = some (.tuple [.int ((n + i : Nat) : Int), x])
  | x :: xs, n, 0, _, h => by simp at h; subst h; rfl
  | x :: xs, n, i + 1, a, h => by
    rw [enuD, List.getElem?_cons_succ]
    have := enuD_get xs (n + 1) i a (by simpa using h)
    rw [this]
    congr 4
    omega
  | [], n, i, _, h => by simp at h
theorem ri_enu {a : Expr} {elts : List Expr} {kk : Nat} {p tpos : Pos} {r : FA} (hK : F.K = X.K) (hg : Gl X "enumerate") (hm : X.mg "enumerate" = none) (ha : PA X [a] (RA F r)) (hs : starEach [a] X.env = [(false, eval a X.env)]) :
    PI X (.Tuple elts kk tpos) (.Call (.Name "enumerate" p) [a] [] pos) (RI F (enuI r)) := by
  refine (pi_enum hg hm ha hs).imp (kept_ok (R := rI F) (op := fun _ vs H1 R => ∃ a xs, vs = [.ref a] ∧ SqL X.K H1 a xs ∧ R (Ite X.K a) H1) ?_)
  intro S0 L0 H0 S L σ H ds xs Q nx rep rd h
  split at h
  · rename_i es
    cases rd with
    | cons r1 t =>
      cases t
      cases r1 with
      | lst k1 q1 =>
        rename_i a vs
        refine ⟨a, vs, rfl, hK ▸ k1.sq, h _ _ _ nx rep ?_⟩
        refine ⟨fun H => SqL X.K H a vs, YPair (fun i => some (.int (i : Nat))) (fun i => vs[i]?), by rw [enuD_length, q1.length]; exact walk_enum, fun H' st => hK ▸ (k1.mono (fun _ h => h) st).sq, fun i H' x H'' st hi y => pair_item st y fun u v e1 e2 => ?_⟩
        cases e1
        obtain ⟨d2, w3, w4⟩ := q1.getV e2
        have w := enuD_get es 0 i d2 w3
        rw [Nat.zero_add] at w
        exact ⟨_, d2, w, .int _, w4⟩
  · exact h.elim
end
end Fw

/-! targets; comprehensions -/
namespace Fw
open PySem PySem.Spec L2
section
variable {F : Fx} {K : PySem.W.Frag} {X : Cx} {pos : Pos}
theorem set_get {α : Type} {L : List α} {i j : Nat} {z w : α} (h : (L.set i z)[j]? = some w) : (j = i ∧ w = z) ∨ (j ≠ i ∧ L[j]? = some w) := by
  by_cases c : i = j
  · subst c
    by_cases hl : i < L.length
    · rw [List.getElem?_set_self hl] at h
      exact .inl ⟨rfl, by cases h; rfl⟩
    · rw [List.getElem?_eq_none (by rw [List.length_set]; omega)] at h; cases h
  · rw [List.getElem?_set_ne c] at h
    exact .inr ⟨fun z => c z.symm, h⟩
/-- a name takes data -/
theorem set_imm {S : Ad} {H : Hp} {L L' : Loc} {σ : St} {ln : Bool} {i : Nat} {d : D} {x : V} (rep : Rep K S L σ H) (r : Rp K S H d x) (e : setV ln i (.imm d) L = some L') :
    Rep K S L' (σ.set i (some x)) H ∧ Nxt ln L σ S H L' (σ.set i (some x)) S H ∧ L'.length = L.length := by
  unfold setV at e
  split at e
  · rename_i c
    cases e
    have hl : i < σ.length := by rw [← rep.len]; exact c.1
    have ow : ∀ a, OwnA (L.set i (some (.imm d))) (σ.set i (some x)) a → OwnA L σ a := fun a ⟨j, m, h1, h2⟩ => by
      rcases set_get h1 with ⟨_, w⟩ | ⟨hj, w⟩
      · cases w
      · rw [List.getElem?_set_ne (Ne.symm hj)] at h2
        exact ⟨j, m, w, h2⟩
    refine ⟨⟨by rw [List.length_set, List.length_set]; exact rep.len, fun j d' h => ?_, fun j m h => ?_, fun j k m m' p h1 h2 h3 h4 => ?_, rep.trk⟩, ⟨fun _ h => h, fun _ h => .inl h, fun _ _ h _ => h, fun _ h => h, fun a h => .inl (ow a h), fun hln => ?_⟩, List.length_set⟩
    · rcases set_get h with ⟨w1, w⟩ | ⟨hj, w⟩
      · cases w
        subst w1
        exact ⟨x, List.getElem?_set_self hl, r⟩
      · rw [List.getElem?_set_ne (Ne.symm hj)]
        exact rep.imm j d' w
    · rcases set_get h with ⟨w1, w⟩ | ⟨hj, w⟩
      · cases w
      · rw [List.getElem?_set_ne (Ne.symm hj)]
        exact rep.own j m w
    · rcases set_get h1 with ⟨_, w⟩ | ⟨hj, w⟩
      · cases w
      · rcases set_get h2 with ⟨_, w2⟩ | ⟨hk, w2⟩
        · cases w2
        · rw [List.getElem?_set_ne (Ne.symm hj)] at h3
          rw [List.getElem?_set_ne (Ne.symm hk)] at h4
          exact rep.inj j k m m' p w w2 h3 h4
    · rw [List.getElem?_set_ne (fun z => c.2 ⟨hln, z⟩)]
  · cases e
/-- what a target reaches -/
structure TgEnd (K : PySem.W.Frag) (ln : Bool) (S : Ad) (H : Hp) (L : Loc) (σ : St) (L' : Loc) (sl : List Nat) (σ' : St) : Prop where
  rep : Rep K S L' σ' H
  nxt : Nxt ln L σ S H L' σ' S H
  out : ∀ j, j ∉ sl → σ'[j]? = σ[j]?
  len : σ'.length = σ.length
  ins : ∀ j, j ∈ sl → j < σ.length
/-- the names of a target -/
def slots : E → List Nat
  | .var i => [i]
  | .tup t => slots t
  | .cons a r => slots a ++ slots r
  | _ => []
/-- g does what asgD ln e does -/
def TgS (K : PySem.W.Frag) (ln : Bool) (e : E) (g : TG) : Prop := ∀ (S : Ad) (H : Hp) (L L' : Loc) (σ : St) (d : D) (x : V) (Q : St → Hp → Prop), Rep K S L σ H → Rp K S H d x → asgD ln e d L = some L' →
  (∀ σ', TgEnd K ln S H L σ L' (slots e) σ' → Q σ' H) → g x σ H Q
def TgsS (K : PySem.W.Frag) (ln : Bool) (e : E) (g : TGs) : Prop := ∀ (S : Ad) (H : Hp) (L L' : Loc) (σ : St) (ds : List D) (xs : List V) (Q : St → Hp → Prop), Rep K S L σ H → RpA K S H ds xs → asgD ln e (.list ds) L = some L' →
  (∀ σ', TgEnd K ln S H L σ L' (slots e) σ' → Q σ' H) → g xs σ H Q
theorem tg_var {ln : Bool} {i : Nat} : TgS K ln (.var i) (gName i) := by
  intro S H L L' σ d x Q rep r e q
  have e : setV ln i (.imm d) L = some L' := by rw [asgD.eq_def] at e; exact e
  obtain ⟨h1, h2, h3⟩ := set_imm rep r e
  have hi : i < L.length := by
    unfold setV at e
    split at e
    · rename_i c; exact c.1
    · cases e
  exact q _ ⟨h1, h2, fun j hj => by rw [List.getElem?_set_ne (by simp [slots] at hj; omega)], List.length_set, fun j hj => by simp [slots] at hj; rw [hj, ← rep.len]; exact hi⟩
theorem tgs_nil {ln : Bool} : TgsS K ln .nil gNil := by
  intro S H L L' σ ds xs Q rep r e q
  rw [asgD.eq_def] at e
  cases r with
  | nil =>
    cases e
    exact ⟨rfl, q _ ⟨rep, .refl, fun _ _ => rfl, rfl, fun j h => by simp [slots] at h⟩⟩
  | cons h t => cases e
theorem tgs_cons {ln : Bool} {a r : E} {g : TG} {gs : TGs} (h1 : TgS K ln a g) (h2 : TgsS K ln r gs) : TgsS K ln (.cons a r) (gCons g gs) := by
  intro S H L L' σ ds xs Q rep rp e q
  rw [asgD.eq_def] at e
  cases rp with
  | nil => cases e
  | cons p t =>
    rename_i d ds x xs
    dsimp only at e
    cases e1 : asgD ln a d L with
    | none => rw [e1] at e; cases e
    | some L1 =>
      rw [e1] at e
      refine ⟨x, xs, rfl, h1 S H L L1 σ d x _ rep p e1 fun σ1 t1 => h2 S H L1 L' σ1 ds xs _ t1.rep t e fun σ2 t2 => q σ2 ⟨t2.rep, t1.nxt.trans t2.nxt, fun j hj => ?_, t2.len.trans t1.len, fun j hj => ?_⟩⟩
      · simp only [slots, List.mem_append, not_or] at hj
        rw [t2.out j hj.2, t1.out j hj.1]
      · simp only [slots, List.mem_append] at hj
        rcases hj with hj | hj
        · exact t1.ins j hj
        · rw [← t1.len]; exact t2.ins j hj
theorem tg_tup {ln : Bool} {t : E} {n : Nat} {gs : TGs} (h : TgsS K ln t gs) (hn : ∀ ds L L', asgD ln t (.list ds) L = some L' → ds.length = n) : TgS K ln (.tup t) (gTup K n gs) := by
  intro S H L L' σ d x Q rep rp e q
  rw [asgD.eq_def] at e
  cases rp with
  | tup k r =>
    rename_i a vs ds
    dsimp only at e
    refine ⟨a, vs, rfl, k.sq, ?_, h S H L L' σ ds vs Q rep r e fun σ' t => q σ' ⟨t.rep, t.nxt, t.out, t.len, t.ins⟩⟩
    rw [← r.length]
    exact hn ds L L' e
  | _ => cases e
/-! ### a block's own names -/
theorem wipeL_length (L : Loc) : ∀ vs : List Nat, (wipeL L vs).length = L.length
  | [] => rfl
  | v :: vs => by unfold wipeL; rw [List.length_set, wipeL_length L vs]
theorem wipeL_out {L : Loc} {j : Nat} : ∀ {vs : List Nat}, j ∉ vs → (wipeL L vs)[j]? = L[j]?
  | [], _ => rfl
  | v :: vs, h => by
    unfold wipeL
    rw [List.getElem?_set_ne (by simp at h; omega)]
    exact wipeL_out (by simp at h; exact h.2)
theorem wipeL_some {L : Loc} {j : Nat} {v : LVal} : ∀ {vs : List Nat}, (wipeL L vs)[j]? = some (some v) → j ∉ vs ∧ L[j]? = some (some v)
  | [], h => ⟨by simp, h⟩
  | w :: vs, h => by
    unfold wipeL at h
    rcases set_get h with ⟨_, z⟩ | ⟨hj, z⟩
    · cases z
    · obtain ⟨h1, h2⟩ := wipeL_some z
      exact ⟨by simp; exact ⟨hj, h1⟩, h2⟩
theorem own_wipe {L : Loc} {σ : St} {vs : List Nat} {a : Addr} (h : OwnA (wipeL L vs) (wipe σ vs) a) : OwnA L σ a := by
  obtain ⟨j, m, h1, h2⟩ := h
  obtain ⟨h3, h4⟩ := wipeL_some h1
  rw [wipe_out h3] at h2
  exact ⟨j, m, h4, h2⟩
theorem rep_wipe {S : Ad} {H : Hp} {L : Loc} {σ : St} {vs : List Nat} (rep : Rep K S L σ H) : Rep K S (wipeL L vs) (wipe σ vs) H := by
  refine ⟨by rw [wipeL_length, wipe_length]; exact rep.len, fun j d h => ?_, fun j m h => ?_, fun j k m m' p h1 h2 h3 h4 => ?_, rep.trk⟩
  · obtain ⟨a, b⟩ := wipeL_some h
    rw [wipe_out a]
    exact rep.imm j d b
  · obtain ⟨a, b⟩ := wipeL_some h
    rw [wipe_out a]
    exact rep.own j m b
  · obtain ⟨a, b⟩ := wipeL_some h1
    obtain ⟨c, d⟩ := wipeL_some h2
    rw [wipe_out a] at h3
    rw [wipe_out c] at h4
    exact rep.inj j k m m' p b d h3 h4
theorem wipe_in {σ : St} {j : Nat} : ∀ {vs : List Nat}, j ∈ vs → j < σ.length → (wipe σ vs)[j]? = some none
  | v :: vs, h, hl => by
    unfold wipe
    by_cases c : v = j
    · subst c
      rw [List.getElem?_set_self (by rw [wipe_length]; exact hl)]
    · rw [List.getElem?_set_ne c]
      exact wipe_in (by simp at h; rcases h with h | h; exact absurd h.symm c; exact h) hl
theorem wipe_eq {σ σ' : St} {vs : List Nat} (hl : σ'.length = σ.length) (h : ∀ j, j ∉ vs → σ'[j]? = σ[j]?) : wipe σ' vs = wipe σ vs := by
  apply List.ext_getElem?
  intro j
  by_cases hj : j ∈ vs
  · by_cases c : j < σ.length
    · rw [wipe_in hj c, wipe_in hj (by omega)]
    · rw [List.getElem?_eq_none (by rw [wipe_length]; omega), List.getElem?_eq_none (by rw [wipe_length]; omega)]
  · rw [wipe_out hj, wipe_out hj, h j hj]
theorem hideL_length (L : Loc) : ∀ vs : List Nat, (hideL L vs).length = L.length
  | [] => rfl
  | v :: vs => by
    unfold hideL frzL
    split
    · rw [List.length_set, hideL_length L vs]
    · exact hideL_length L vs
/-- the hidden made data -/
theorem hide_ok {ln : Bool} {L0 : Loc} {σ : St} {S0 : Ad} {H0 H : Hp} : ∀ (vs : List Nat) {S : Ad} {L : Loc}, Nxt ln L0 σ S0 H0 L σ S H → Rep K S L σ H →
    ∃ S', Nxt ln L0 σ S0 H0 (hideL L vs) σ S' H ∧ Rep K S' (hideL L vs) σ H ∧ (∀ a, S a → S' a) ∧ ∀ j m, j ∈ vs → (hideL L vs)[j]? ≠ some (some (.own m))
  | [], S, L, n, rep => ⟨S, n, rep, fun _ h => h, fun j m h => by cases h⟩
  | v :: vs, S, L, n, rep => by
    obtain ⟨S1, n1, rep1, sub1, no1⟩ := hide_ok vs n rep
    show ∃ S', Nxt ln L0 σ S0 H0 (frzL (hideL L vs) v) σ S' H ∧ Rep K S' (frzL (hideL L vs) v) σ H ∧ (∀ a, S a → S' a) ∧ ∀ j m, j ∈ v :: vs → (frzL (hideL L vs) v)[j]? ≠ some (some (.own m))
    unfold frzL
    cases e : getL (hideL L vs) v with
    | none =>
      refine ⟨S1, n1, rep1, sub1, fun j m hj z => ?_⟩
      rcases List.mem_cons.mp hj with rfl | hj
      · have z' : (hideL L vs)[j]? = some (some (LVal.own m)) := z
        rw [getL_of z'] at e; cases e
      · exact no1 j m hj z
    | some w =>
      obtain ⟨S2, r1, r2, r3, x, r4, r5⟩ := frz_ok rep1 e
      refine ⟨S2, n1.frz r2 r3 fun a => own_set, r1, fun a h => r2 a (sub1 a h), fun j m hj z => ?_⟩
      rcases set_get z with ⟨_, q⟩ | ⟨hne, q⟩
      · cases q
      · rcases List.mem_cons.mp hj with rfl | hj
        · exact hne rfl
        · exact no1 j m hj q
theorem backL_length (K0 L : Loc) : ∀ vs : List Nat, (backL K0 L vs).length = L.length
  | [] => rfl
  | v :: vs => by
    unfold backL
    split
    · rw [List.length_set, backL_length K0 L vs]
    · exact backL_length K0 L vs
theorem backL_out {K0 L : Loc} {j : Nat} : ∀ {vs : List Nat}, j ∉ vs → (backL K0 L vs)[j]? = L[j]?
  | [], _ => rfl
  | v :: vs, h => by
    simp at h
    unfold backL
    split
    · rw [List.getElem?_set_ne (by omega)]
      exact backL_out h.2
    · exact backL_out h.2
theorem backL_in {K0 L : Loc} {j : Nat} (hl : K0.length = L.length) : ∀ {vs : List Nat}, j ∈ vs → (backL K0 L vs)[j]? = K0[j]?
  | v :: vs, h => by
    unfold backL
    split
    · rename_i x e
      by_cases c : v = j
      · subst c
        have hv := (List.getElem?_eq_some_iff.mp e).1
        rw [List.getElem?_set_self (by rw [backL_length]; omega), e]
      · rw [List.getElem?_set_ne c]
        exact backL_in hl (by simp at h; rcases h with h | h; exact absurd h.symm c; exact h)
    · rename_i e
      by_cases c : v = j
      · subst c
        rw [e]
        have hv := List.getElem?_eq_none_iff.mp e
        exact List.getElem?_eq_none (by rw [backL_length]; omega)
      · exact backL_in hl (by simp at h; rcases h with h | h; exact absurd h.symm c; exact h)

/-- another object, not ours, has changed -/
theorem rep_other {S : Ad} {H : Hp} {L : Loc} {σ : St} {D : Addr} {o : HO} (rep : Rep K S L σ H) (h1 : ¬ S D) (h2 : ¬ OwnA L σ D) : Rep K S L σ (upd H D o) := by
  have st : ∀ a o', S a → H a = some o' → upd H D o a = some o' := fun a o' h e => by rw [upd_ne (show a ≠ D from fun z => h1 (z ▸ h))]; exact e
  refine ⟨rep.len, fun i d e => ?_, fun i m e => ?_, rep.inj, fun a h => ?_⟩
  · obtain ⟨v, q1, q2⟩ := rep.imm i d e
    exact ⟨v, q1, q2.mono (fun _ h => h) st⟩
  · obtain ⟨p, q1, q2, q3⟩ := rep.own i m e
    refine ⟨p, q1, q2, q3.mono (fun _ h => h) st fun o' e' => ?_⟩
    rw [upd_ne (show p ≠ D from fun z => h2 ⟨i, m, e, by rw [q1, z]⟩)]
    exact e'
  · rw [upd_ne (show a ≠ D from fun z => h1 (z ▸ h))]
    exact rep.trk a h
theorem wipe_wipe {σ : St} {vs : List Nat} : wipe (wipe σ vs) vs = wipe σ vs := wipe_eq (wipe_length σ vs) fun j hj => wipe_out hj
/-- behind the block -/
theorem blk_back {ln : Bool} {K0 L2 : Loc} {σ : St} {S2 Sc : Ad} {H1 H : Hp} {own : List Nat} (rep2 : Rep K S2 K0 σ H1) (no2 : ∀ j m, j ∈ own → K0[j]? ≠ some (some (LVal.own m))) (rep : Rep K Sc (wipeL L2 own) (wipe σ own) H)
    (n : Nxt ln (wipeL K0 own) (wipe σ own) S2 H1 (wipeL L2 own) (wipe σ own) Sc H) : Nxt ln K0 σ S2 H1 (backL K0 L2 own) σ Sc H ∧ Rep K Sc (backL K0 L2 own) σ H ∧ ∀ a, OwnA (backL K0 L2 own) σ a → OwnA (wipeL L2 own) (wipe σ own) a := by
  have hl : K0.length = L2.length := by
    have e1 := rep.len
    rw [wipeL_length, wipe_length] at e1
    rw [rep2.len, e1]
  have get : ∀ {j : Nat} {v : LVal}, (backL K0 L2 own)[j]? = some (some v) → (j ∈ own ∧ K0[j]? = some (some v)) ∨ (j ∉ own ∧ (wipeL L2 own)[j]? = some (some v) ∧ (wipe σ own)[j]? = σ[j]?) := fun {j v} h => by
    by_cases c : j ∈ own
    · rw [backL_in hl c] at h
      exact .inl ⟨c, h⟩
    · rw [backL_out c] at h
      exact .inr ⟨c, by rw [wipeL_out c]; exact h, wipe_out c⟩
  have ow : ∀ a, OwnA (backL K0 L2 own) σ a → OwnA (wipeL L2 own) (wipe σ own) a := fun a ⟨j, m, h1, h2⟩ => by
    rcases get h1 with ⟨c, e⟩ | ⟨c, e, e2⟩
    · exact absurd e (no2 j m c)
    · exact ⟨j, m, e, by rw [e2]; exact h2⟩
  have st : ∀ a o, S2 a → H1 a = some o → H a = some o := fun a o h e => n.keep a o e fun z => rep2.notOwn h (own_wipe z)
  refine ⟨⟨n.sub, fun a h => (n.new a h).elim .inl fun z => z.elim (fun z => .inr (.inl z)) fun z => .inr (.inr (own_wipe z)), fun a o e no => n.keep a o e fun z => no (own_wipe z), n.there, fun a h => (n.own a (ow a h)).elim (fun z => .inl (own_wipe z)) .inr, fun _ => rfl⟩,
    ⟨by rw [backL_length, ← hl]; exact rep2.len, fun j d h => ?_, fun j m h => ?_, fun j k m m' p h1 h2 h3 h4 => ?_, rep.trk⟩, ow⟩
  · rcases get h with ⟨c, e⟩ | ⟨c, e, e2⟩
    · obtain ⟨v, q1, q2⟩ := rep2.imm j d e
      exact ⟨v, q1, q2.mono n.sub st⟩
    · rw [← e2]; exact rep.imm j d e
  · rcases get h with ⟨c, e⟩ | ⟨c, e, e2⟩
    · exact absurd e (no2 j m c)
    · rw [← e2]; exact rep.own j m e
  · rcases get h1 with ⟨c, e⟩ | ⟨c, e, e2⟩
    · exact absurd e (no2 j m c)
    · rcases get h2 with ⟨c', e'⟩ | ⟨c', e', e2'⟩
      · exact absurd e' (no2 k m' c')
      · rw [← e2] at h3
        rw [← e2'] at h4
        exact rep.inj j k m m' p e e' h3 h4
abbrev Fx.nox (F : Fx) : Fx := { F with W := fun _ _ _ _ => False }
theorem noErr_ok {α : Type} {r : Res α} {a : α} {L : Loc} {β : Type} {g : α → Loc → Res β} {b : β} {L' : Loc} (h : (noErr r).bind g = .ok b L') : ∃ a L1, r = .ok a L1 ∧ g a L1 = .ok b L' := by
  cases r with
  | ok a L1 => exact ⟨a, L1, rfl, h⟩
  | err c L1 => cases h
  | bad => cases h
theorem bind_ok {α β : Type} {r : Res α} {g : α → Loc → Res β} {b : β} {L' : Loc} (h : r.bind g = .ok b L') : ∃ a L1, r = .ok a L1 ∧ g a L1 = .ok b L' := by
  cases r with
  | ok a L1 => exact ⟨a, L1, rfl, h⟩
  | err c L1 => cases h
  | bad => cases h
/-- [elt for tg in it if cond] -/
theorem lc_read {own : List Nat} {it : FI} {tgE : E} {cond : FT} {elt : FE} {g : TG} {σ : St} {H : Hp} {Q : VK} (hsl : ∀ j ∈ slots tgE, j ∈ own) (hg : TgS F.K F.ln tgE g) (q : RE F (compF own it (asgD F.ln tgE) cond elt) σ H Q) :
    tLc (RI F it) g (RT F.nox cond) (RE F.nox elt) own σ H Q := by
  refine go1 q fun S L ds L1 S1 H1 J rep n1 rep1 wd h => ?_
  intro D hD
  by_cases hz : ds.length ≤ line
  case neg => rw [if_neg hz] at h; exact h.elim
  rw [if_pos hz] at h
  obtain ⟨S2, n2, rep2, sub2, no2⟩ := hide_ok own n1 rep1
  generalize hK0 : hideL L1 own = K0 at h n2 rep2 no2
  cases ec : compLoop own (asgD F.ln tgE) (fun K => noErr (cond K)) (fun K => noErr ((elt K).bind fun p K1 => keepD K1 p)) ds K0 with
  | bad => rw [ec] at h; exact h.elim
  | err c L2 => rw [ec] at h; exact h.elim
  | ok ys L2 =>
    rw [ec] at h
    obtain ⟨G, Y, w, hG, hY⟩ := wd
    have hDS : ∀ {Sx : Ad} {Lx : Loc} {σx : St}, Rep F.K Sx Lx σx H1 → ¬ OwnA Lx σx D := fun r z => r.ownSome z hD
    let Pv : Nat → Hp → Prop := fun i H' => ∃ (Sc : Ad) (Lc : Loc) (acc rest : List Fw.D) (accV : List V), compLoop own (asgD F.ln tgE) (fun K => noErr (cond K)) (fun K => noErr ((elt K).bind fun p K1 => keepD K1 p)) (ds.drop i) Lc = .ok rest L2 ∧ ys = acc ++ rest ∧ acc.length ≤ i ∧
      H' D = some (.lst accV) ∧ ¬ Sc D ∧ ¬ OwnA (wipeL Lc own) (wipe σ own) D ∧ RpA F.K Sc H' acc accV ∧ Rep F.K Sc (wipeL Lc own) (wipe σ own) H' ∧ Nxt F.ln (wipeL K0 own) (wipe σ own) S2 H1 (wipeL Lc own) (wipe σ own) Sc H'
    have stay : ∀ {i : Nat} {H' : Hp}, Pv i H' → ∀ a o, S1 a → H1 a = some o → H' a = some o := fun {i H'} ⟨Sc, Lc, acc, rest, accV, _, _, _, _, _, _, _, _, n⟩ a o ha e => n.keep a o e fun z => rep2.notOwn (sub2 a ha) (own_wipe z)
    refine lc_it w Pv ?_ (fun i H' _ p => hG H' (stay p)) (fun i x H' H'' hi p y => ?_) fun H' p => ?_
    · refine ⟨S2, K0, [], ys, [], by simpa using ec, rfl, Nat.le_refl _, upd_same, rep2.notS hD, fun z => hDS rep2 (own_wipe z), .nil, rep_wipe (rep2.upd_new hD), ?_⟩
      exact .alloc hD
    · obtain ⟨d, hd, item⟩ := hY i H' x H'' (stay p) hi y
      obtain ⟨Sc, Lc, acc, rest, accV, e1, e2, e3, e4, e5, e6, e7, e8, e9⟩ := p
      have hdrop : ds.drop i = d :: ds.drop (i + 1) := by
        obtain ⟨hlt, hget⟩ := List.getElem?_eq_some_iff.mp hd
        rw [List.drop_eq_getElem_cons hlt, hget]
      rw [hdrop] at e1
      unfold compLoop at e1
      cases ea : asgD F.ln tgE d (wipeL Lc own) with
      | none => rw [ea] at e1; cases e1
      | some La =>
        rw [ea] at e1
        dsimp only at e1
        obtain ⟨b, Lb, eb, e1⟩ := noErr_ok (a := true) (L := []) e1
        -- the item, seen at H''
        obtain ⟨Sd, nD, rD, hRp, hDs, hDo⟩ : ∃ Sd, Nxt F.ln (wipeL Lc own) (wipe σ own) Sc H' (wipeL Lc own) (wipe σ own) Sd H'' ∧ Rep F.K Sd (wipeL Lc own) (wipe σ own) H'' ∧ Rp F.K Sd H'' d x ∧ ¬ Sd D ∧ H'' D = some (.lst accV) := by
          have up : ∀ a, S1 a → Sc a := fun a ha => e9.sub a (sub2 a ha)
          rcases item with ⟨rfl, r⟩ | ⟨T, a, b, x1, y1, rfl, hT, rfl, rfl, ra, rb⟩
          · exact ⟨Sc, .refl, e8, r.mono up fun _ _ _ e => e, e5, e4⟩
          · have nT : Nxt F.ln (wipeL Lc own) (wipe σ own) Sc H' (wipeL Lc own) (wipe σ own) (plus Sc T) (upd H' T (.tup [x1, y1])) := .allocS hT
            have hTD : D ≠ T := ne_none hT e4
            exact ⟨plus Sc T, nT, e8.allocS hT, .tup (.inl ⟨.inr rfl, .inl upd_same⟩) (.cons (Rp.next nT e8 (ra.mono up fun _ _ _ e => e)) (.cons (Rp.next nT e8 (rb.mono up fun _ _ _ e => e)) .nil)), fun z => z.elim e5 fun z => hTD z, by rw [upd_ne hTD]; exact e4⟩
        refine hg Sd H'' (wipeL Lc own) La (wipe σ own) d x _ rD hRp ea fun σ2 t => ⟨?_, ?_⟩
        · rw [wipe_eq (σ' := σ2) (σ := wipe σ own) t.len fun j hj => t.out j fun z => hj (hsl j z)]
          exact wipe_wipe
        have hw2 : wipe σ2 own = wipe σ own := by
          rw [wipe_eq (σ' := σ2) (σ := wipe σ own) t.len fun j hj => t.out j fun z => hj (hsl j z)]
          exact wipe_wipe
        refine ⟨Sd, La, t.rep, ?_⟩
        rw [eb]
        intro S3 H3 b' n3 rep3 rel
        have rel : b = b' := rel
        subst rel
        -- from the turn's start
        have nT : Nxt F.ln (wipeL Lc own) (wipe σ own) Sc H' Lb σ2 S3 H3 := (nD.trans t.nxt).trans n3
        -- the turn's end
        have fin : ∀ {Sx : Ad} {Lx : Loc} {Hx : Hp} {rest' : List Fw.D} {acc' : List Fw.D} {accV' : List V}, Nxt F.ln (wipeL Lc own) (wipe σ own) Sc H' Lx σ2 Sx Hx → Rep F.K Sx Lx σ2 Hx → compLoop own (asgD F.ln tgE) (fun K => noErr (cond K)) (fun K => noErr ((elt K).bind fun p K1 => keepD K1 p)) (ds.drop (i + 1)) Lx = .ok rest' L2 →
            ys = acc' ++ rest' → acc'.length ≤ i + 1 → RpA F.K Sx Hx acc' accV' → Pv (i + 1) (upd Hx D (.lst accV')) := fun {Sx Lx Hx rest' acc' accV'} nx rx ex ey el er => by
          have nS : ¬ Sx D := fun z => by
            rcases nx.new D z with z | z | z
            · exact e5 z
            · rw [e4] at z; cases z
            · exact e6 z
          have nO : ¬ OwnA Lx σ2 D := fun z => by
            rcases nx.own D z with z | z
            · exact e6 z
            · rw [e4] at z; cases z
          have nO' : ¬ OwnA (wipeL Lx own) (wipe σ own) D := fun z => nO (by rw [← hw2] at z; exact own_wipe z)
          have rw' := rep_wipe (vs := own) rx
          rw [hw2] at rw'
          refine ⟨Sx, Lx, acc', rest', accV', ex, ey, el, upd_same, nS, nO', er.mono (fun _ h => h) fun a o ha e => by rw [upd_ne (show a ≠ D from fun z => nS (z ▸ ha))]; exact e, rep_other rw' nS nO', ?_⟩
          have n0 := e9.trans nx
          refine ⟨n0.sub, n0.new, fun a o e no => ?_, fun a ha => ?_, fun a ha => n0.own a (by rw [← hw2] at ha; exact own_wipe ha), fun _ => rfl⟩
          · rw [upd_ne (ne_none hD e)]
            exact n0.keep a o e no
          · by_cases z : a = D
            · rw [z, upd_same]; simp
            · rw [upd_ne z]; exact n0.there a ha
        have keepD' : ∀ {Lx : Loc} {Sx : Ad} {Hx : Hp}, Nxt F.ln (wipeL Lc own) (wipe σ own) Sc H' Lx σ2 Sx Hx → Hx D = some (.lst accV) := fun nx => nx.keep D _ e4 e6
        cases b with
        | false =>
          rw [if_neg Bool.false_ne_true]
          have e1' : compLoop own (asgD F.ln tgE) (fun K => noErr (cond K)) (fun K => noErr ((elt K).bind fun p K1 => keepD K1 p)) (ds.drop (i + 1)) Lb = .ok rest L2 := e1
          have z := fin nT rep3 e1' e2 (Nat.le_succ_of_le e3) (e7.next nT e8)
          have ez : upd H3 D (.lst accV) = H3 := by
            funext a
            by_cases c : a = D
            · rw [c, upd_same, keepD' nT]
            · rw [upd_ne c]
          rw [ez] at z
          exact z
        | true =>
          rw [if_pos rfl]
          dsimp only at e1
          obtain ⟨yd, Ld, ed, e1⟩ := noErr_ok (a := PyData.none) (L := []) e1
          obtain ⟨pe, Le, ee, ed⟩ := bind_ok ed
          obtain ⟨ys', Lf, ef, e1⟩ := bind_ok e1
          cases e1
          refine ⟨S3, Lb, rep3, ?_⟩
          rw [ee]
          intro S4 H4 v n4 rep4 rel4
          obtain ⟨S5, n5, rep5, r5, _⟩ := keepD_ok n4 rep4 rel4 ed
          have nT5 := nT.trans n5
          refine ⟨accV, keepD' nT5, ?_, fin nT5 rep5 ef (by rw [e2, List.append_assoc]; rfl) (by rw [List.length_append, List.length_singleton]; omega) ((e7.next nT5 e8).append (.cons r5 .nil))⟩
          have l1 := e7.length
          rw [line_eq] at hz
          omega
    · obtain ⟨Sc, Lc, acc, rest, accV, e1, e2, e3, e4, e5, e6, e7, e8, e9⟩ := p
      rw [List.drop_length] at e1
      unfold compLoop at e1
      cases e1
      rw [List.append_nil] at e2
      subst e2
      obtain ⟨b1, b2, b3⟩ := blk_back rep2 no2 e8 e9
      refine h Sc H' (.ref D) (n2.trans b1) b2 ⟨D, rfl, e5, fun z => e6 (b3 D z), ?_, accV, e4, e7⟩
      cases z : H D with
      | none => rfl
      | some o => exact absurd hD (n1.there D (by rw [z]; simp))
end
end Fw

/-! statements -/
namespace Fw
open PySem PySem.Spec L2
/-- a value handed back, seen from the start -/
def RetR (K : PySem.W.Frag) (ln : Bool) (Hs : Hp) (L0 : Loc) (σ0 : St) (S : Ad) (H : Hp) (v : LVal) (x : V) : Prop := match v with
  | .imm d => Rp K S H d x
  | .own m => ∃ q, x = .ref q ∧ ¬ S q ∧ (Hs q = none ∨ (ln = false ∧ OwnA L0 σ0 q)) ∧ OwnR K S H m q
def AftS (F : Fx) (σ : St) (H : Hp) (L : Loc) (S : Ad) (r : SRes) (D : Ends) : Prop := match r with
  | .next L' => ∀ S' σ' H', Nxt F.ln L σ S H L' σ' S' H' → Rep F.K S' L' σ' H' → D.nx σ' H'
  | .brk L' => ∀ S' σ' H', Nxt F.ln L σ S H L' σ' S' H' → Rep F.K S' L' σ' H' → D.bk σ' H'
  | .cont L' => ∀ S' σ' H', Nxt F.ln L σ S H L' σ' S' H' → Rep F.K S' L' σ' H' → D.ct σ' H'
  | .ret v L' => ∀ S' σ' H' x, Nxt F.ln L σ S H L' σ' S' H' → Rep F.K S' L' σ' H' → RetR F.K F.ln H L σ S' H' v x → D.rt x H'
  | .err c L' => ∀ S' σ' H', Nxt F.ln L σ S H L' σ' S' H' → Rep F.K S' L' σ' H' → F.W (F.ca c) none σ' H'
  | .bad => False
def RS (F : Fx) (f : FS) : TS := fun D σ H => ∃ S L, Rep F.K S L σ H ∧ AftS F σ H L S (f L) D
section
variable {F : Fx} {K : PySem.W.Frag} {X : Cx} {pos : Pos} {D : Ends}
theorem RetR.back {ln : Bool} {H0 H1 : Hp} {L0 L1 : Loc} {σ0 σ1 : St} {S0 S1 S : Ad} {H : Hp} {v : LVal} {x : V} (n : Nxt ln L0 σ0 S0 H0 L1 σ1 S1 H1) (r : RetR K ln H1 L1 σ1 S H v x) : RetR K ln H0 L0 σ0 S H v x := by
  cases v with
  | imm d => exact r
  | own m =>
    obtain ⟨q, e, h1, h2, h3⟩ := r
    refine ⟨q, e, h1, ?_, h3⟩
    rcases h2 with h2 | ⟨hl, h2⟩
    · refine .inl ?_
      cases z : H0 q with
      | none => rfl
      | some o => exact absurd h2 (n.there q (by rw [z]; simp))
    · rcases n.own q h2 with z | z
      · exact .inr ⟨hl, z⟩
      · exact .inl z
/-- the same, from an earlier start -/
theorem AftS.from {σ0 σ1 : St} {H0 H1 : Hp} {L0 L1 : Loc} {S0 S1 : Ad} {r : SRes} (n : Nxt F.ln L0 σ0 S0 H0 L1 σ1 S1 H1) (h : AftS F σ0 H0 L0 S0 r D) : AftS F σ1 H1 L1 S1 r D := by
  cases r with
  | next L => exact fun S' σ' H' n' r => h S' σ' H' (n.trans n') r
  | brk L => exact fun S' σ' H' n' r => h S' σ' H' (n.trans n') r
  | cont L => exact fun S' σ' H' n' r => h S' σ' H' (n.trans n') r
  | ret v L => exact fun S' σ' H' x n' r rr => h S' σ' H' x (n.trans n') r (rr.back n)
  | err c L => exact fun S' σ' H' n' r => h S' σ' H' (n.trans n') r
  | bad => exact h
/-- an expression ahead of the rest of a statement -/
theorem go_S {α β : Type} {f : Loc → Res α} {g : α → Loc → SRes} {R1 : St → RR α β} {Y : β → Hp → Prop} {σ : St} {H : Hp} (h : RS F (fun L => (f L).toS g) D σ H)
    (k : ∀ S L a L2 S2 H2 b, Rep F.K S L σ H → Nxt F.ln L σ S H L2 σ S2 H2 → Rep F.K S2 L2 σ H2 → R1 σ H S2 L2 H2 a b → AftS F σ H L S (g a L2) D → Y b H2) : Go F f R1 σ H Y := by
  obtain ⟨S, L, rep, h⟩ := h
  have h : AftS F σ H L S ((f L).toS g) D := h
  refine ⟨S, L, rep, ?_⟩
  cases e : f L with
  | ok a L2 => rw [e] at h; exact fun S2 H2 b n rep2 rel => k S L a L2 S2 H2 b rep n rep2 rel h
  | err c L2 => rw [e] at h; exact fun S2 H2 n rep2 => h S2 σ H2 n rep2
  | bad => rw [e] at h; exact h
theorem go_S2 {α β : Type} {f : Loc → Res α} {g : α → Loc → SRes} {R1 : St → RR α β} {Y : β → Hp → Prop} {σ : St} {H H1 : Hp} {L L1 : Loc} {S S1 : Ad} (n0 : Nxt F.ln L σ S H L1 σ S1 H1) (rep1 : Rep F.K S1 L1 σ H1) (h : AftS F σ H L S ((f L1).toS g) D)
    (k : ∀ a L2 S2 H2 b, Nxt F.ln L σ S H L2 σ S2 H2 → Nxt F.ln L1 σ S1 H1 L2 σ S2 H2 → Rep F.K S2 L2 σ H2 → R1 σ H1 S2 L2 H2 a b → AftS F σ H L S (g a L2) D → Y b H2) : Go F f R1 σ H1 Y := by
  refine ⟨S1, L1, rep1, ?_⟩
  cases e : f L1 with
  | ok a L2 => rw [e] at h; exact fun S2 H2 b n rep2 rel => k a L2 S2 H2 b (n0.trans n) n rep2 rel h
  | err c L2 => rw [e] at h; exact fun S2 H2 n rep2 => h S2 σ H2 (n0.trans n) rep2
  | bad => rw [e] at h; exact h
/-! ### control -/
theorem rs_pass : PS X (.Pass pos) (RS F fun L => .next L) := ps_pass.imp fun D σ H ⟨S, L, rep, h⟩ => h S σ H .refl rep
theorem rs_brk : PS X (.Break pos) (RS F fun L => .brk L) := ps_break.imp fun D σ H ⟨S, L, rep, h⟩ => h S σ H .refl rep
theorem rs_cont : PS X (.Continue pos) (RS F fun L => .cont L) := ps_continue.imp fun D σ H ⟨S, L, rep, h⟩ => h S σ H .refl rep
theorem rs_retN : PS X (.Return none pos) (RS F fun L => .ret (.imm .none) L) := ps_retN.imp fun D σ H ⟨S, L, rep, h⟩ => h S σ H .non .refl rep .non
theorem rss_nil : PSs X [] (RS F fun L => .next L) := pss_nil.imp fun D σ H ⟨S, L, rep, h⟩ => h S σ H .refl rep
theorem rss_one {st : Stmt} {f : FS} (h : PS X st (RS F f)) : PSs X [st] (RS F f) := pss_one h
theorem rss_cons {st : Stmt} {rest : List Stmt} {f g : FS} (h1 : PS X st (RS F f)) (h2 : PSs X rest (RS F g)) : PSs X (st :: rest) (RS F (seqS f g)) := by
  refine (pss_cons h1 h2).imp fun D σ H ⟨S, L, rep, h⟩ => ⟨S, L, rep, ?_⟩
  unfold seqS at h
  cases e : f L with
  | next L1 =>
    simp only [e] at h
    exact fun S' σ' H' n rep' => ⟨S', L1, rep', AftS.from n h⟩
  | brk L1 => simp only [e] at h; exact h
  | cont L1 => simp only [e] at h; exact h
  | ret v L1 => simp only [e] at h; exact h
  | err c L1 => simp only [e] at h; exact h
  | bad => simp only [e] at h; exact h
theorem rs_ex {e : Expr} {f : FE} (he : PE X e (RE F f)) (hs : swapsWith e none pos.line X.env = pure false) : PS X (.Expr e pos) (RS F (exS f)) := by
  refine (ps_expr he hs).imp fun D σ H q => go_S q fun S L p L2 S2 H2 x rep n rep2 rel h => h S2 σ H2 n rep2
theorem rs_cond {c : Expr} {a b : List Stmt} {t : FT} {f g : FS} (hc : PT X c (RT F t)) (ha : PSs X a (RS F f)) (hb : PSs X b (RS F g)) : PS X (.If c a b pos) (RS F (condS t f g)) := by
  refine (ps_if hc ha hb).imp fun D σ H q => go_S q fun S L k L2 S2 H2 x rep n rep2 rel h => ?_
  cases rel
  cases k with
  | true => exact ⟨S2, L2, rep2, AftS.from n h⟩
  | false => exact ⟨S2, L2, rep2, AftS.from n h⟩
theorem rs_ret {e : Expr} {f : FE} (he : PE X e (RE F f)) : PS X (.Return (some e) pos) (RS F (retS F.ln f)) := by
  refine (ps_ret he).imp fun D σ H q => go_S q fun S L p L2 S2 H2 x rep n rep2 rel h => ?_
  cases p with
  | imm d => exact h S2 σ H2 x n rep2 rel
  | own m =>
    obtain ⟨q, e, h1, h2, h3, h4⟩ := rel
    exact h S2 σ H2 x n rep2 ⟨q, e, h1, .inl h3, h4⟩
  | loc i =>
    dsimp only at h
    cases e1 : getL L2 i with
    | none => rw [e1] at h; exact h.elim
    | some v =>
      rw [e1] at h
      dsimp only at h
      have hx : σ[i]? = some (some x) := rel
      by_cases hl : F.ln = true
      · rw [if_pos hl] at h
        obtain ⟨S', r1, r2, r3, y, r4, r5⟩ := frz_ok rep2 e1
        rw [r4] at hx
        cases hx
        exact h S' σ H2 x (n.frz r2 r3 fun a => own_set) r1 r5
      · rw [if_neg hl] at h
        have hl' : F.ln = false := by cases z : F.ln with
          | true => exact absurd z hl
          | false => rfl
        have e2 := getL_some e1
        have own1 : ∀ a, OwnA (L2.set i none) σ a → OwnA L2 σ a := fun a ⟨j, m, q1, q2⟩ => by
          rcases set_get q1 with ⟨_, z⟩ | ⟨_, z⟩
          · cases z
          · exact ⟨j, m, z, q2⟩
        have repN : Rep F.K S2 (L2.set i none) σ H2 := by
          refine ⟨by rw [List.length_set]; exact rep2.len, fun j d q => ?_, fun j m q => ?_, fun j k m m' p q1 q2 q3 q4 => ?_, rep2.trk⟩
          · rcases set_get q with ⟨_, z⟩ | ⟨_, z⟩
            · cases z
            · exact rep2.imm j d z
          · rcases set_get q with ⟨_, z⟩ | ⟨_, z⟩
            · cases z
            · exact rep2.own j m z
          · rcases set_get q1 with ⟨_, z⟩ | ⟨_, z⟩
            · cases z
            · rcases set_get q2 with ⟨_, z2⟩ | ⟨_, z2⟩
              · cases z2
              · exact rep2.inj j k m m' p z z2 q3 q4
        have nN : Nxt F.ln L σ S H (L2.set i none) σ S2 H2 := n.frz (fun _ h => h) (fun _ h => .inl h) own1
        cases v with
        | imm d =>
          obtain ⟨y, q1, q2⟩ := rep2.imm i d e2
          rw [hx] at q1
          cases q1
          exact h S2 σ H2 x nN repN q2
        | own m =>
          obtain ⟨p, q1, q2, q3⟩ := rep2.own i m e2
          rw [hx] at q1
          cases q1
          refine h S2 σ H2 _ nN repN ⟨p, rfl, q2, ?_, q3⟩
          rcases n.own p ⟨i, m, e2, hx⟩ with z | z
          · exact .inr ⟨hl', z⟩
          · exact .inl z
end
end Fw

/-! loops, assignments -/
namespace Fw
open PySem PySem.Spec L2
section
variable {F : Fx} {K : PySem.W.Frag} {X : Cx} {pos : Pos} {D : Ends}
theorem rs_loop {c : Expr} {body : List Stmt} {t : FT} {f : FS} {Wn : Nat} (hp : PassesOwn (model X.prog X.w) X.A X.env X.xe) (hc : PT X c (RT F t)) (hb : PSs X body (RS F f)) : PS X (.While c body [] pos) (RS F (loopS t f Wn)) := by
  refine (ps_while hp hc hb).imp fun D σ H ⟨S, L, rep, h⟩ => ?_
  refine ⟨fun m σ' H' => ∃ S' L', Rep F.K S' L' σ' H' ∧ AftS F σ' H' L' S' (loopS t f m L') D, ⟨Wn, S, L, rep, h⟩, ?_⟩
  rintro m σ1 H1 ⟨S1, L1, rep1, h1⟩
  cases m with
  | zero => exact h1.elim
  | succ m =>
    have h1 : RS F (fun L => (t L).toS fun k L1 => match k with
      | true => match f L1 with
        | .next L2 => loopS t f m L2
        | .cont L2 => loopS t f m L2
        | .brk L2 => .next L2
        | r => r
      | false => .next L1) D σ1 H1 := ⟨S1, L1, rep1, h1⟩
    refine go_S h1 fun S L k L2 S2 H2 b rep n rep2 rel h => ?_
    cases rel
    cases k with
    | false => rw [if_neg Bool.false_ne_true]; exact h S2 σ1 H2 n rep2
    | true =>
      rw [if_pos rfl]
      refine ⟨fun σ' H' => ∃ S' L', Rep F.K S' L' σ' H' ∧ AftS F σ' H' L' S' (loopS t f m L') D, fun σ' H' w => ⟨m, Nat.lt_succ_self _, w⟩, S2, L2, rep2, ?_⟩
      dsimp only at h
      cases e : f L2 with
      | next L3 => rw [e] at h; exact fun S' σ' H' n' rep' => ⟨S', L3, rep', AftS.from (n.trans n') h⟩
      | cont L3 => rw [e] at h; exact fun S' σ' H' n' rep' => ⟨S', L3, rep', AftS.from (n.trans n') h⟩
      | brk L3 => rw [e] at h; exact fun S' σ' H' n' rep' => h S' σ' H' (n.trans n') rep'
      | ret v L3 => rw [e] at h; exact fun S' σ' H' x n' rep' rr => h S' σ' H' x (n.trans n') rep' (rr.back n)
      | err c L3 => rw [e] at h; exact fun S' σ' H' n' rep' => h S' σ' H' (n.trans n') rep'
      | bad => rw [e] at h; exact h
theorem rs_each {tg iter : Expr} {body : List Stmt} {tgE : E} {g : TG} {it : FI} {f : FS} (hp : PassesOwn (model X.prog X.w) X.A X.env X.xe) (hc : X.calm = true) (hi : PI X tg iter (RI F it)) (hg : PG X tg g) (hgs : TgS F.K F.ln tgE g) (hb : PSs X body (RS F f))
    (hs : ∀ x, foldedSetIterable iter X.env x = pure x) : PS X (.For tg iter body [] pos) (RS F (eachS (asgD F.ln tgE) it f)) := by
  refine (ps_for hp hc hi hg hb hs).imp fun D σ H q => ?_
  refine go_S q fun S L ds L1 S1 H1 J rep n1 rep1 wd h => ?_
  obtain ⟨G, Y, w, hG, hY⟩ := wd
  have stay : ∀ {S' : Ad} {L' : Loc} {σ' : St} {H' : Hp}, Nxt F.ln L1 σ S1 H1 L' σ' S' H' → ∀ a o, S1 a → H1 a = some o → H' a = some o := fun n a o ha e => n.keep a o e (rep1.notOwn ha)
  refine for_it w (fun i σ' H' => ∃ S' L', Rep F.K S' L' σ' H' ∧ Nxt F.ln L1 σ S1 H1 L' σ' S' H' ∧ AftS F σ' H' L' S' (eachL (asgD F.ln tgE) f (ds.drop i) L') D) ?_ ?_ ?_ ?_
  · exact ⟨S1, L1, rep1, .refl, AftS.from n1 h⟩
  · rintro i σ' H' _ ⟨S', L', rep', n', _⟩
    exact hG H' (stay n')
  · rintro i x σ' H' H'' hi ⟨S', L', rep', n', h'⟩ y
    obtain ⟨d, hd, item⟩ := hY i H' x H'' (stay n') hi y
    have hdrop : ds.drop i = d :: ds.drop (i + 1) := by
      obtain ⟨hlt, hget⟩ := List.getElem?_eq_some_iff.mp hd
      rw [List.drop_eq_getElem_cons hlt, hget]
    rw [hdrop] at h'
    unfold eachL at h'
    obtain ⟨Sd, nD, rD, hRp⟩ : ∃ Sd, Nxt F.ln L' σ' S' H' L' σ' Sd H'' ∧ Rep F.K Sd L' σ' H'' ∧ Rp F.K Sd H'' d x := by
      have up : ∀ a, S1 a → S' a := n'.sub
      rcases item with ⟨rfl, r⟩ | ⟨T, a, b, x1, y1, rfl, hT, rfl, rfl, ra, rb⟩
      · exact ⟨S', .refl, rep', r.mono up fun _ _ _ e => e⟩
      · have nT : Nxt F.ln L' σ' S' H' L' σ' (plus S' T) (upd H' T (.tup [x1, y1])) := .allocS hT
        exact ⟨plus S' T, nT, rep'.allocS hT, .tup (.inl ⟨.inr rfl, .inl upd_same⟩) (.cons (Rp.next nT rep' (ra.mono up fun _ _ _ e => e)) (.cons (Rp.next nT rep' (rb.mono up fun _ _ _ e => e)) .nil))⟩
    cases ea : asgD F.ln tgE d L' with
    | none => rw [ea] at h'; exact h'.elim
    | some La =>
      rw [ea] at h'
      refine hgs Sd H'' L' La σ' d x _ rD hRp ea fun σ2 t => ⟨Sd, La, t.rep, ?_⟩
      have nT := nD.trans t.nxt
      dsimp only at h'
      cases e : f La with
      | next L3 => rw [e] at h'; exact fun S3 σ3 H3 n3 rep3 => ⟨S3, L3, rep3, n'.trans (nT.trans n3), AftS.from (nT.trans n3) h'⟩
      | cont L3 => rw [e] at h'; exact fun S3 σ3 H3 n3 rep3 => ⟨S3, L3, rep3, n'.trans (nT.trans n3), AftS.from (nT.trans n3) h'⟩
      | brk L3 => rw [e] at h'; exact fun S3 σ3 H3 n3 rep3 => h' S3 σ3 H3 (nT.trans n3) rep3
      | ret v L3 => rw [e] at h'; exact fun S3 σ3 H3 x n3 rep3 rr => h' S3 σ3 H3 x (nT.trans n3) rep3 (rr.back nT)
      | err c L3 => rw [e] at h'; exact fun S3 σ3 H3 n3 rep3 => h' S3 σ3 H3 (nT.trans n3) rep3
      | bad => rw [e] at h'; exact h'
  · rintro σ' H' ⟨S', L', rep', n', h'⟩
    rw [List.drop_length] at h'
    exact h' S' σ' H' .refl rep'
/-! ### assignments -/
/-- a name takes a new object -/
theorem set_own {S0 S : Ad} {H0 H : Hp} {L0 L L' : Loc} {σ0 σ : St} {ln : Bool} {i : Nat} {m : MO} {p : Addr} (n : Nxt ln L0 σ0 S0 H0 L σ S H) (rep : Rep K S L σ H) (h1 : ¬ S p) (h2 : ¬ OwnA L σ p) (h3 : H0 p = none) (h4 : OwnR K S H m p) (e : setV ln i (.own m) L = some L') :
    Rep K S L' (σ.set i (some (.ref p))) H ∧ Nxt ln L0 σ0 S0 H0 L' (σ.set i (some (.ref p))) S H ∧ ∀ a, OwnA L' (σ.set i (some (.ref p))) a → OwnA L σ a ∨ a = p := by
  unfold setV at e
  split at e
  · rename_i c
    cases e
    have hl : i < σ.length := by rw [← rep.len]; exact c.1
    have other : ∀ {j : Nat} {m' : MO} {q : Addr}, L[j]? = some (some (LVal.own m')) → σ[j]? = some (some (V.ref q)) → q ≠ p := fun {j m' q} e1 e2 z => h2 ⟨j, m', e1, by rw [e2, z]⟩
    have ow : ∀ a, OwnA (L.set i (some (.own m))) (σ.set i (some (.ref p))) a → OwnA L σ a ∨ a = p := fun a ⟨j, m', q1, q2⟩ => by
      rcases set_get q1 with ⟨w1, w⟩ | ⟨hj, w⟩
      · subst w1
        rw [List.getElem?_set_self hl] at q2
        cases q2
        exact .inr rfl
      · rw [List.getElem?_set_ne (Ne.symm hj)] at q2
        exact .inl ⟨j, m', w, q2⟩
    refine ⟨⟨by rw [List.length_set, List.length_set]; exact rep.len, fun j d' h => ?_, fun j m' h => ?_, fun j k m1 m2 q q1 q2 q3 q4 => ?_, rep.trk⟩, ⟨n.sub, n.new, n.keep, n.there, fun a h => ?_, fun hln => ?_⟩, ow⟩
    · rcases set_get h with ⟨w1, w⟩ | ⟨hj, w⟩
      · cases w
      · rw [List.getElem?_set_ne (Ne.symm hj)]
        exact rep.imm j d' w
    · rcases set_get h with ⟨w1, w⟩ | ⟨hj, w⟩
      · cases w
        subst w1
        exact ⟨p, List.getElem?_set_self hl, h1, h4⟩
      · rw [List.getElem?_set_ne (Ne.symm hj)]
        exact rep.own j m' w
    · rcases set_get q1 with ⟨w1, w⟩ | ⟨hj, w⟩ <;> rcases set_get q2 with ⟨w2, w'⟩ | ⟨hk, w'⟩
      · rw [w1, w2]
      · subst w1
        rw [List.getElem?_set_self hl] at q3
        cases q3
        rw [List.getElem?_set_ne (Ne.symm hk)] at q4
        exact absurd rfl (other w' q4)
      · subst w2
        rw [List.getElem?_set_self hl] at q4
        cases q4
        rw [List.getElem?_set_ne (Ne.symm hj)] at q3
        exact absurd rfl (other w q3)
      · rw [List.getElem?_set_ne (Ne.symm hj)] at q3
        rw [List.getElem?_set_ne (Ne.symm hk)] at q4
        exact rep.inj j k m1 m2 q w w' q3 q4
    · rcases ow a h with z | z
      · exact n.own a z
      · rw [z]; exact .inr h3
    · rw [List.getElem?_set_ne (fun z => c.2 ⟨hln, z⟩)]
      exact n.lent hln
  · cases e
theorem fixP_ok {ln : Bool} {L0 L L' : Loc} {σ : St} {S0 S : Ad} {H0 H : Hp} {p q : PVal} {x : V} (n : Nxt ln L0 σ S0 H0 L σ S H) (rep : Rep K S L σ H) (rel : RelP K H0 S L σ H p x) (e : fixP L p = .ok q L') :
    ∃ S', Nxt ln L0 σ S0 H0 L' σ S' H ∧ Rep K S' L' σ H ∧ RelP K H0 S' L' σ H q x ∧ (∀ i, q ≠ .loc i) ∧ (∀ a, S a → S' a) ∧ (∀ a, S' a → S a ∨ OwnA L σ a) ∧ (∀ a, OwnA L' σ a → OwnA L σ a) ∧ (∀ m, q = .own m → p = .own m) := by
  cases p with
  | imm d => cases e; exact ⟨S, n, rep, rel, (fun _ h => by cases h), fun _ h => h, fun _ h => .inl h, fun _ h => h, fun _ h => h⟩
  | own m => cases e; exact ⟨S, n, rep, rel, (fun _ h => by cases h), fun _ h => h, fun _ h => .inl h, fun _ h => h, fun _ h => h⟩
  | loc j =>
    unfold fixP at e
    cases e1 : getL L j with
    | none => simp only [e1] at e; cases e
    | some v =>
      simp only [e1] at e
      cases e
      obtain ⟨S', r1, r2, r3, y, r4, r5⟩ := frz_ok rep e1
      have : σ[j]? = some (some x) := rel
      rw [r4] at this
      cases this
      exact ⟨S', n.frz r2 r3 fun a => own_set, r1, r5, (fun _ h => by cases h), r2, r3, fun a => own_set, (fun _ h => by cases h)⟩
theorem fixP_noerr {p : PVal} {L L' : Loc} {c : Nat} : fixP L p ≠ .err c L' := by
  unfold fixP
  cases p with
  | imm d => intro e; cases e
  | own m => intro e; cases e
  | loc i =>
    intro e
    simp only at e
    split at e <;> cases e
/-- name = e -/
theorem asg_read {i : Nat} {f : FE} {σ : St} {H : Hp} (q : RS F (asgS F.ln i f) D σ H) : RE F f σ H fun x H1 => D.nx (σ.set i (some x)) H1 := by
  refine go_S q fun S L p L1 S1 H1 x rep n1 rep1 rel h => ?_
  cases e : fixP L1 p with
  | bad => rw [e] at h; exact h.elim
  | err c L2 => exact absurd e fixP_noerr
  | ok p' L2 =>
    rw [e] at h
    obtain ⟨S2, n2, rep2, rel2, nl, _, _, _, _⟩ := fixP_ok n1 rep1 rel e
    cases e2 : asgV F.ln i p' L2 with
    | none => simp only [Res.toS, e2] at h; exact h.elim
    | some L3 =>
      simp only [Res.toS, e2] at h
      cases p' with
      | loc j => exact absurd rfl (nl j)
      | imm d =>
        obtain ⟨r1, r2, _⟩ := set_imm rep2 rel2 e2
        exact h S2 _ H1 (n2.trans r2) r1
      | own m =>
        obtain ⟨p, rfl, q1, q2, q3, q4⟩ := rel2
        obtain ⟨r1, r2, _⟩ := set_own n2 rep2 q1 q2 q3 q4 e2
        exact h S2 _ H1 r2 r1
theorem rs_asg {i : Nat} {x : Str} {e : Expr} {pos' : Pos} {f : FE} (hN : X.N.Nodup) (hi : X.N[i]? = some x) (hx : L2.Loc X.env.scope x) (he : PE X e (RE F f)) (hs : swapsWith e (some (.Name x pos')) pos.line X.env = pure false) (hf : X.fn x = true ∨ X.env.scope.names.lookup x = some .local) :
    PS X (.Assign [.Name x pos'] e pos) (RS F (asgS F.ln i f)) := (ps_set hN hi hx he hs hf).imp fun D σ H q => asg_read q
/-- names = a tuple -/
theorem rs_asgT {tg e : Expr} {f : FE} {tgE : E} {g : TG} (he : PE X e (RE F f)) (hg : PG X tg g) (hgs : TgS F.K F.ln tgE g) (hs : swapsWithSole [tg] e pos.line X.env = pure false) (hw : swappedStores [tg] e X.env = pure none) (h1 : (assignEach [tg] X.env).map (·.2) = [assign tg X.env]) :
    PS X (.Assign [tg] e pos) (RS F (asgTS (asgD F.ln tgE) f)) := by
  refine (ps_asg he hg hs hw h1).imp fun D σ H q => ?_
  refine go_S q fun S L p L1 S1 H1 x rep n1 rep1 rel h => ?_
  cases e : keepD L1 p with
  | bad => rw [e] at h; exact h.elim
  | err c L2 => exact absurd e keepD_noerr
  | ok d L2 =>
    rw [e] at h
    obtain ⟨S2, n2, rep2, r2, _⟩ := keepD_ok n1 rep1 rel e
    cases e2 : asgD F.ln tgE d L2 with
    | none => simp only [Res.toS, e2] at h; exact h.elim
    | some L3 =>
      simp only [Res.toS, e2] at h
      exact hgs S2 H1 L2 L3 σ d x _ rep2 r2 e2 fun σ' t => h S2 σ' H1 (n2.trans t.nxt) t.rep
end
end Fw

/-! several names at once; items stored; names changed; errors -/
namespace Fw
open PySem PySem.Spec L2
section
variable {F : Fx} {K : PySem.W.Frag} {X : Cx} {pos : Pos} {D : Ends}
theorem fixAll_noerr : ∀ {ps : List PVal} {L L' : Loc} {c : Nat}, fixAll ps L ≠ .err c L'
  | [], L, L', c, e => by cases e
  | p :: ps, L, L', c, e => by
    unfold fixAll at e
    cases e1 : fixP L p with
    | bad => simp only [e1, Res.bind] at e; cases e
    | err c L1 => exact fixP_noerr e1
    | ok d L1 =>
      simp only [e1, Res.bind] at e
      cases e2 : fixAll ps L1 with
      | bad => simp only [e2] at e; cases e
      | err c L1 => exact fixAll_noerr e2
      | ok d L1 => simp only [e2] at e; cases e
theorem RelPs.step {Hs : Hp} {S S1 : Ad} {L L1 : Loc} {σ : St} {H : Hp} (sub : ∀ a, S a → S1 a) (new : ∀ a, S1 a → S a ∨ OwnA L σ a) (ow : ∀ a, OwnA L1 σ a → OwnA L σ a) : ∀ {ps : List PVal} {xs : List V}, RelPs K Hs S L σ H ps xs → RelPs K Hs S1 L1 σ H ps xs
  | _, _, .nil => .nil
  | _, _, .cons (p := p) h d t => by
    refine .cons ?_ d (RelPs.step sub new ow t)
    cases p with
    | imm d => exact h.mono sub fun _ _ _ e => e
    | loc i => exact h
    | own m =>
      obtain ⟨q, ex, q1, q2, q3, q4⟩ := h
      exact ⟨q, ex, fun z => (new q z).elim q1 q2, fun z => q2 (ow q z), q3, q4.mono sub (fun _ _ _ e => e) fun _ e => e⟩
theorem fixAll_ok {ln : Bool} {L0 : Loc} {σ : St} {S0 : Ad} {H0 H : Hp} : ∀ {ps qs : List PVal} {xs : List V} {S : Ad} {L L' : Loc}, Nxt ln L0 σ S0 H0 L σ S H → Rep K S L σ H → RelPs K H0 S L σ H ps xs → fixAll ps L = .ok qs L' →
    ∃ S', Nxt ln L0 σ S0 H0 L' σ S' H ∧ Rep K S' L' σ H ∧ RelPs K H0 S' L' σ H qs xs ∧ (∀ q ∈ qs, ∀ i, q ≠ .loc i) ∧ (∀ a, S a → S' a) ∧ (∀ a, S' a → S a ∨ OwnA L σ a) ∧ (∀ a, OwnA L' σ a → OwnA L σ a) ∧ ∀ (j : Nat) (m : MO), qs[j]? = some (PVal.own m) → ps[j]? = some (PVal.own m)
  | _, qs, _, S, L, L', n, rep, .nil, e => by
    cases e
    exact ⟨S, n, rep, .nil, (fun _ h => by cases h), fun _ h => h, fun _ h => .inl h, fun _ h => h, fun _ _ h => h⟩
  | _, qs, _, S, L, L', n, rep, .cons (p := p) (x := x) (ps := ps) (xs := xs) h dis t, e => by
    unfold fixAll at e
    obtain ⟨q, L1, e1, e⟩ := bind_ok e
    obtain ⟨qs', L2, e2, e⟩ := bind_ok e
    cases e
    obtain ⟨S1, n1, rep1, h1, nl, sub1, new1, ow1, own1⟩ := fixP_ok n rep h e1
    obtain ⟨S2, n2, rep2, t2, nls, sub2, new2, ow2, own2⟩ := fixAll_ok n1 rep1 (t.step sub1 new1 ow1) e2
    refine ⟨S2, n2, rep2, .cons ?_ (fun m em j m' ej => dis m (own1 m em) j m' (own2 j m' ej)) t2, fun q' hq i => ?_, fun a h => sub2 a (sub1 a h), fun a h => (new2 a h).elim (fun z => new1 a z) fun z => .inr (ow1 a z), fun a h => ow1 a (ow2 a h), fun j m hj => ?_⟩
    · have := (RelPs.cons (K := K) (Hs := H0) (S := S1) (L := L1) (σ := σ) (H := H) h1 (xs := []) (ps := []) (fun m _ j m' ej => by simp at ej) .nil).step sub2 new2 ow2
      cases this with
      | cons a _ _ => exact a
    · rcases List.mem_cons.mp hq with rfl | hq
      · exact nl i
      · exact nls q' hq i
    · cases j with
      | zero => simp at hj ⊢; exact own1 m hj
      | succ j => simp at hj ⊢; exact own2 j m hj
def setsV : List Nat → List V → St → St
  | i :: is, x :: xs, σ => setsV is xs (σ.set i (some x))
  | _, _, σ => σ
theorem asgVs_ok {ln : Bool} {L0 : Loc} {σ0 : St} {S0 : Ad} {H0 H : Hp} : ∀ {is : List Nat} {ps : List PVal} {xs : List V} {σ : St} {S : Ad} {L L' : Loc}, Nxt ln L0 σ0 S0 H0 L σ S H → Rep K S L σ H → RelPs K H0 S L σ H ps xs → (∀ q ∈ ps, ∀ i, q ≠ .loc i) → asgVs ln is ps L = some L' →
    Nxt ln L0 σ0 S0 H0 L' (setsV is xs σ) S H ∧ Rep K S L' (setsV is xs σ) H
  | [], _, _, σ, S, L, L', n, rep, .nil, _, e => by
    cases e
    exact ⟨n, rep⟩
  | i :: is, _, _, σ, S, L, L', n, rep, .cons (p := p) (x := x) (ps := ps) (xs := xs) h dis t, nl, e => by
    unfold asgVs at e
    cases e1 : asgV ln i p L with
    | none => rw [e1] at e; cases e
    | some L1 =>
      rw [e1] at e
      have go : ∀ (w : Nxt ln L0 σ0 S0 H0 L1 (σ.set i (some x)) S H ∧ Rep K S L1 (σ.set i (some x)) H ∧ ∀ a, OwnA L1 (σ.set i (some x)) a → OwnA L σ a ∨ (∃ m, p = .own m ∧ x = .ref a)), Nxt ln L0 σ0 S0 H0 L' (setsV is xs (σ.set i (some x))) S H ∧ Rep K S L' (setsV is xs (σ.set i (some x))) H := fun ⟨w1, w2, w3⟩ => by
        refine asgVs_ok w1 w2 ?_ (fun q hq => nl q (List.mem_cons_of_mem _ hq)) e
        clear e
        revert dis nl
        induction t with
        | nil => intro _ _; exact .nil
        | @cons p2 x2 ps2 xs2 h2 d2 t2 ih =>
          intro dis nl
          refine .cons ?_ d2 (ih (fun m em j m' ej => by
            have := dis m em (j + 1) m' (by simpa using ej)
            simpa using this) fun q hq => nl q (by
            rcases List.mem_cons.mp hq with rfl | hq
            · exact List.mem_cons_self
            · exact List.mem_cons_of_mem _ (List.mem_cons_of_mem _ hq)))
          cases p2 with
          | imm d => exact h2
          | loc k => exact absurd rfl (nl (.loc k) (List.mem_cons_of_mem _ List.mem_cons_self) k)
          | own m =>
            obtain ⟨q, ex, q1, q2, q3, q4⟩ := h2
            subst ex
            refine ⟨q, rfl, q1, fun z => ?_, q3, q4⟩
            rcases w3 q z with z | ⟨m', em, z⟩
            · exact q2 z
            · exact dis m' em 0 m rfl (by rw [z]; rfl)
      refine go ?_
      cases p with
      | loc k => exact absurd rfl (nl _ List.mem_cons_self k)
      | imm d =>
        obtain ⟨r1, r2, _⟩ := set_imm rep h e1
        refine ⟨n.trans r2, r1, fun a z => (r2.own a z).elim .inl fun z' => ?_⟩
        refine .inl ?_
        obtain ⟨j, m, q1, q2⟩ := z
        exact absurd z' (r1.ownSome ⟨j, m, q1, q2⟩)
      | own m =>
        obtain ⟨p, rfl, q1, q2, q3, q4⟩ := h
        obtain ⟨r1, r2, r3⟩ := set_own n rep q1 q2 q3 q4 e1
        exact ⟨r2, r1, fun a z => (r3 a z).elim .inl fun z => .inr ⟨m, rfl, by rw [z]⟩⟩
  | [], _, _, σ, S, L, L', n, rep, .cons h dis t, _, e => by cases e
  | i :: is, _, _, σ, S, L, L', n, rep, .nil, _, e => by cases e
theorem asgVs_len {ln : Bool} : ∀ {is : List Nat} {ps : List PVal} {L L' : Loc}, asgVs ln is ps L = some L' → is.length = ps.length
  | [], [], _, _, _ => rfl
  | i :: is, p :: ps, L, L', e => by
    unfold asgVs at e
    cases e1 : asgV ln i p L with
    | none => rw [e1] at e; cases e
    | some L1 => rw [e1] at e; rw [List.length_cons, List.length_cons, asgVs_len e]
  | [], _ :: _, _, _, e => by cases e
  | _ :: _, [], _, _, e => by cases e
theorem RelPs.length {Hs : Hp} {S : Ad} {L : Loc} {σ : St} {H : Hp} : ∀ {ps : List PVal} {xs : List V}, RelPs K Hs S L σ H ps xs → ps.length = xs.length
  | _, _, .nil => rfl
  | _, _, .cons _ _ t => by rw [List.length_cons, List.length_cons, RelPs.length t]
/-- names, values: op is reached with as many values as names, and what follows from any heap that the tuple may have come to -/
theorem par_read {is : List Nat} {r : FA} {σ : St} {H : Hp} (q : RS F (parS F.ln is r) D σ H) : RA F r σ H fun xs H1 => xs.length = is.length ∧ D.nx (setsV is xs σ) H1 ∧ ∀ p o, H1 p = none → D.nx (setsV is xs σ) (upd H1 p o) := by
  refine go_S q fun S L ps L1 S1 H1 xs rep n1 rep1 rels h => ?_
  cases e : fixAll ps L1 with
  | bad => rw [e] at h; exact h.elim
  | err c L2 => exact absurd e fixAll_noerr
  | ok qs L2 =>
    rw [e] at h
    obtain ⟨S2, n2, rep2, rel2, nl, _, _, _, _⟩ := fixAll_ok n1 rep1 rels e
    cases e2 : asgVs F.ln is qs L2 with
    | none => simp only [Res.toS, e2] at h; exact h.elim
    | some L3 =>
      simp only [Res.toS, e2] at h
      obtain ⟨n3, rep3⟩ := asgVs_ok n2 rep2 rel2 nl e2
      have hl : xs.length = is.length := by rw [asgVs_len e2, rel2.length]
      exact ⟨hl, h S2 _ H1 n3 rep3, fun p o hp => h S2 _ _ (n3.trans (.alloc hp)) (rep3.upd_new hp)⟩
/-- two, three names: stored from the right, no tuple is seen -/
theorem rs_par2 {i j : Nat} {x y : Str} {a b : Expr} {r : FA} {px py pt : Pos} {kt k2 : Nat} {pt2 : Pos} (hc : X.calm = true) (hN : X.N.Nodup) (hi : X.N[i]? = some x) (hj : X.N[j]? = some y) (hij : i ≠ j)
    (hx : X.env.scope.names.lookup x = some .local) (hy : X.env.scope.names.lookup y = some .local) (ha : PA X [a, b] (RA F r))
    (hw : swappedStores [.Tuple [.Name x px, .Name y py] kt pt] (.Tuple [a, b] k2 pt2) X.env = pure (some [x, y])) (hs : swapsWithSole [.Tuple [.Name x px, .Name y py] kt pt] (.Tuple [a, b] k2 pt2) pos.line X.env = pure false) :
    PS X (.Assign [.Tuple [.Name x px, .Name y py] kt pt] (.Tuple [a, b] k2 pt2) pos) (RS F (parS F.ln [i, j] r)) := by
  refine (ps_par hc hN hi hj hij hx hy ha hw hs).imp fun D σ H q => Go.mono (fun xs H1 w => ?_) (par_read q)
  obtain ⟨hl, w, _⟩ := w
  match xs, hl with
  | [v, u], _ => exact ⟨v, u, rfl, w⟩
theorem rs_par3 {i j l : Nat} {x y z : Str} {a b c : Expr} {r : FA} {px py pz pt : Pos} {kt k2 : Nat} {pt2 : Pos} (hc : X.calm = true) (hN : X.N.Nodup) (hi : X.N[i]? = some x) (hj : X.N[j]? = some y) (hl : X.N[l]? = some z) (hij : i ≠ j) (hil : i ≠ l) (hjl : j ≠ l)
    (hx : X.env.scope.names.lookup x = some .local) (hy : X.env.scope.names.lookup y = some .local) (hz : X.env.scope.names.lookup z = some .local) (ha : PA X [a, b, c] (RA F r))
    (hw : swappedStores [.Tuple [.Name x px, .Name y py, .Name z pz] kt pt] (.Tuple [a, b, c] k2 pt2) X.env = pure (some [x, y, z])) (hs : swapsWithSole [.Tuple [.Name x px, .Name y py, .Name z pz] kt pt] (.Tuple [a, b, c] k2 pt2) pos.line X.env = pure false) :
    PS X (.Assign [.Tuple [.Name x px, .Name y py, .Name z pz] kt pt] (.Tuple [a, b, c] k2 pt2) pos) (RS F (parS F.ln [i, j, l] r)) := by
  refine (ps_par3 hc hN hi hj hl hij hil hjl hx hy hz ha hw hs).imp fun D σ H q => Go.mono (fun xs H1 w => ?_) (par_read q)
  obtain ⟨hl, w, _⟩ := w
  match xs, hl with
  | [v, u, t], _ => exact ⟨v, u, t, rfl, w⟩
/-- names from a tuple's items -/
def gNames : List Nat → TGs
  | [] => gNil
  | i :: is => gCons (gName i) (gNames is)
theorem gNames_ok : ∀ {is : List Nat} {xs : List V} {σ : St} {H : Hp} {Q : St → Hp → Prop}, xs.length = is.length → Q (setsV is xs σ) H → gNames is xs σ H Q
  | [], [], σ, H, Q, _, h => ⟨rfl, h⟩
  | i :: is, x :: xs, σ, H, Q, e, h => ⟨x, xs, rfl, gNames_ok (by simpa using e) h⟩
  | [], _ :: _, _, _, _, e, _ => by simp at e
  | _ :: _, [], _, _, _, e, _ => by simp at e
theorem rs_parT {is : List Nat} {ts es : List Expr} {r : FA} {kt k2 : Nat} {pt pt2 : Pos} (hz : is.length ≤ 1000) (ha : PA X es (RA F r)) (hg : PG X (.Tuple ts kt pt) (gTup X.K is.length (gNames is)))
    (hs : swapsWithSole [.Tuple ts kt pt] (.Tuple es k2 pt2) pos.line X.env = pure false) (hw : swappedStores [.Tuple ts kt pt] (.Tuple es k2 pt2) X.env = pure none) (h1 : (assignEach [.Tuple ts kt pt] X.env).map (·.2) = [assign (.Tuple ts kt pt) X.env]) :
    PS X (.Assign [.Tuple ts kt pt] (.Tuple es k2 pt2) pos) (RS F (parS F.ln is r)) := by
  refine (ps_asg (pe_tup ha) hg hs hw h1).imp fun D σ H q => Go.mono (fun xs H1 w => ?_) (par_read q)
  obtain ⟨hl, _, w⟩ := w
  refine ⟨by rw [hl, sizeLine_eq]; omega, fun p hp => ⟨p, xs, rfl, SqT.of upd_same, hl, gNames_ok hl (w p _ hp)⟩⟩
/-! ### x[k] = e -/
theorem put_any {l : List (Fw.D × Fw.D)} {kvs : List (Key × V)} (k : Key) (e : l.map Prod.fst = kvs.map (fun p => keyD p.1)) : (l.any fun p => keyEq p.1 (keyD k)) = kvs.any fun kv => decide (kv.1 = k) := by
  have h1 : (l.any fun p => keyEq p.1 (keyD k)) = (l.map Prod.fst).any fun z => keyEq z (keyD k) := by rw [List.any_map]; rfl
  have h2 : (kvs.any fun kv => decide (kv.1 = k)) = (kvs.map fun p => keyD p.1).any fun z => keyEq z (keyD k) := by
    rw [List.any_map]
    congr 1
    funext kv
    exact (keyEq_iff k kv.1).symm
  rw [h1, h2, e]
theorem put_map {S : Ad} {H : Hp} {k : Key} {d : Fw.D} {v : V} (r : Rp K S H d v) : ∀ {l : List (Fw.D × Fw.D)} {kvs : List (Key × V)}, l.map Prod.fst = kvs.map (fun p => keyD p.1) → RpA K S H (l.map Prod.snd) (kvs.map Prod.snd) →
    (l.map fun p => if keyEq p.1 (keyD k) then (p.1, d) else p).map Prod.fst = (kvs.map fun kv => if kv.1 = k then (kv.1, v) else kv).map (fun p => keyD p.1) ∧
    RpA K S H ((l.map fun p => if keyEq p.1 (keyD k) then (p.1, d) else p).map Prod.snd) ((kvs.map fun kv => if kv.1 = k then (kv.1, v) else kv).map Prod.snd)
  | [], [], _, _ => ⟨rfl, .nil⟩
  | [], _ :: _, e, _ => by cases e
  | _ :: _, [], e, _ => by cases e
  | (kd, x) :: l, (j, y) :: kvs, e, t => by
    simp only [List.map_cons, List.cons.injEq] at e
    obtain ⟨rfl, e2⟩ := e
    cases t with
    | cons t1 t2 =>
      obtain ⟨h1, h2⟩ := put_map (k := k) r e2 t2
      simp only [List.map_cons, keyEq_iff]
      by_cases z : j = k
      · subst z
        simp only [decide_true, if_true]
        exact ⟨by rw [h1], .cons r h2⟩
      · simp only [decide_eq_false z, if_neg z, if_neg Bool.false_ne_true]
        exact ⟨by rw [h1], .cons t1 h2⟩
theorem put_kv {S : Ad} {H : Hp} {k : Key} {d : Fw.D} {v : V} (r : Rp K S H d v) {l : List (Fw.D × Fw.D)} {kvs : List (Key × V)} (e : l.map Prod.fst = kvs.map (fun p => keyD p.1)) (t : RpA K S H (l.map Prod.snd) (kvs.map Prod.snd)) :
    (dput (keyD k) d l).map Prod.fst = (putK kvs k v).map (fun p => keyD p.1) ∧ RpA K S H ((dput (keyD k) d l).map Prod.snd) ((putK kvs k v).map Prod.snd) := by
  unfold dput putK
  rw [put_any k e]
  split
  · exact put_map r e t
  · rw [List.map_append, List.map_append, List.map_append, List.map_append, e]
    exact ⟨rfl, t.append (.cons r .nil)⟩
theorem upd_dic {S : Ad} {H : Hp} {L : Loc} {σ : St} {i : Nat} {p : Addr} {m : MO} {l : List (Fw.D × Fw.D)} {ws : List (Key × V)} (rep : Rep K S L σ H) (e : getL L i = some (.own m)) (hp : σ[i]? = some (some (.ref p))) (r1 : l.map Prod.fst = ws.map (fun p => keyD p.1)) (r : RpA K S H (l.map Prod.snd) (ws.map Prod.snd)) :
    (∀ ln, Nxt ln L σ S H (L.set i (some (.own (.dic l)))) σ S (upd H p (.dK ws))) ∧ Rep K S (L.set i (some (.own (.dic l)))) σ (upd H p (.dK ws)) := by
  obtain ⟨p', h1, h2, h3⟩ := rep.own i m (getL_some e)
  rw [hp] at h1
  cases h1
  have n : FnN (some p) S H S (upd H p (.dK ws)) := ⟨fun _ h => h, fun _ h => .inl h, fun a o e hn => by rw [upd_ne (fun z => hn (by rw [z]))]; exact e, fun a h => by
    by_cases z : a = p
    · rw [z, upd_same]; simp
    · rw [upd_ne z]; exact h, fun a h => by rw [upd_ne (show a ≠ p from fun z => h2 (z ▸ h))]; exact rep.trk a h⟩
  obtain ⟨q1, q2, _⟩ := put_ok (z := .own (.dic l)) rep e hp n ⟨h2, ws, upd_same, r1, r.mono (fun _ h => h) fun a o h e => by rw [upd_ne (show a ≠ p from fun z => h2 (z ▸ h))]; exact e⟩
  exact ⟨q1, q2⟩
def tPutE : V → V → V → Hp → (Hp → Prop) → Prop := fun o y v H Q => rSetL o y v H Q ∨ ∃ a H4, o = .ref a ∧ DPut H a y v H4 ∧ Q H4
theorem set_either (hu : X.A.units + 1 < cLine) : PSet X tPutE := by
  intro pins s σ H o i v ov iv u Q I ro ri rv h
  rcases h with h | ⟨a, H4, rfl, g, q⟩
  · exact set_list pins s σ H o i v ov iv u Q I ro ri rv h
  · cases ro
    exact d_setItem hu I g ri rv fun s4 I4 => ⟨H4, I4, q⟩
theorem rs_put {i : Nat} {x : Str} {px tp : Pos} {ke e : Expr} {f g : FE} (hu : X.A.units + 1 < cLine) (hx : PE X (.Name x px) (tVar i)) (hk : PE X ke (RE F g)) (he : PE X e (RE F f))
    (hs1 : swapsWithSole [.Subscript (.Name x px) ke tp] e pos.line X.env = pure false) (hw : swappedStores [.Subscript (.Name x px) ke tp] e X.env = pure none) (h1 : (assignEach [.Subscript (.Name x px) ke tp] X.env).map (·.2) = [assign (.Subscript (.Name x px) ke tp) X.env])
    (ha : ∀ v, assign (.Subscript (.Name x px) ke tp) X.env v = (do
      let ov ← holding [v] (eval (.Name x px) X.env)
      let iv ← holding [v, ov] (eval ke X.env)
      standAt tp
      holding [v, ov, iv] (setItem ov iv v)
      release [v, ov, iv] [])) :
    PS X (.Assign [.Subscript (.Name x px) ke tp] e pos) (RS F (putS i g f)) := by
  refine (ps_asg he (pg_sub hx hk (set_either hu) ha) hs1 hw h1).imp fun D σ H q => ?_
  refine go_S q fun S L p L1 S1 H1 v rep n1 rep1 rel h => ?_
  cases e1 : keepD L1 p with
  | bad => rw [e1] at h; exact h.elim
  | err c L2 => exact absurd e1 keepD_noerr
  | ok vd L2 =>
    rw [e1] at h
    obtain ⟨S2, n2, rep2, r2, _⟩ := keepD_ok n1 rep1 rel e1
    replace h : AftS F σ H L S (putK1 i g vd L2) D := h
    unfold putK1 at h
    cases e2 : getL L2 i with
    | none => rw [e2] at h; exact h.elim
    | some w =>
      cases w with
      | imm d => rw [e2] at h; exact h.elim
      | own m0 =>
        rw [e2] at h
        obtain ⟨p0, hp0, _, _⟩ := rep2.own i m0 (getL_some e2)
        refine ⟨_, hp0, ?_⟩
        refine go_S2 n2 rep2 h fun q L3 S3 H3 y n3 n23 rep3 rel3 h3 => ?_
        cases e3 : keepD L3 q with
        | bad => rw [e3] at h3; exact h3.elim
        | err c L4 => exact absurd e3 keepD_noerr
        | ok kd L4 =>
          rw [e3] at h3
          obtain ⟨S4, n4, rep4, r4, sub4, _⟩ := keepD_ok n3 rep3 (rel3.back n2.there) e3
          have r2' : Rp F.K S4 H3 vd v := (Rp.next n23 rep2 r2).mono sub4 fun _ _ _ e => e
          replace h3 : AftS F σ H L S (putK2 i kd vd L4) D := h3
          unfold putK2 at h3
          cases e4 : getL L4 i with
          | none => rw [e4] at h3; exact h3.elim
          | some w =>
            cases w with
            | imm d => rw [e4] at h3; exact h3.elim
            | own m =>
              rw [e4] at h3
              dsimp only at h3
              obtain ⟨p1, hp1, _, ow⟩ := rep4.own i m (getL_some e4)
              rw [hp0] at hp1
              cases hp1
              cases e5 : kSet m kd vd with
              | none => rw [e5] at h3; exact h3.elim
              | some m' =>
                rw [e5] at h3
                dsimp only at h3
                cases m with
                | lst ds =>
                  have e6 : kSetL ds kd vd = some m' := e5
                  unfold kSetL at e6
                  cases r4 with
                  | int k =>
                    dsimp only at e6
                    cases e7 : ixD ds.length k with
                    | none => rw [e7] at e6; cases e6
                    | some j =>
                      rw [e7] at e6
                      cases e6
                      obtain ⟨vs, hv, rv⟩ := ow
                      obtain ⟨q1, q2⟩ := upd_lst rep4 e4 hp0 (rv.set j r2')
                      refine .inl ⟨p0, vs, _, j, rfl, rfl, hv, ?_, h3 _ σ _ (n4.trans (q1 _)) q2⟩
                      rw [← rv.length]
                      exact e7
                  | _ => cases e6
                | dic l =>
                  have e6 : kSetD l kd vd = some m' := e5
                  unfold kSetD at e6
                  by_cases c : isKey kd = true ∧ l.length < line
                  · rw [if_pos c] at e6
                    cases e6
                    obtain ⟨kvs, hv, hk1, rv⟩ := ow
                    obtain ⟨k, rfl⟩ := key_of c.1
                    obtain ⟨a1, a2⟩ := put_kv (k := k) r2' hk1 rv
                    obtain ⟨q1, q2⟩ := upd_dic rep4 e4 hp0 a1 a2
                    have hy : y = kV k := (show Vw F.K S4 H3 (keyD k) y from .inl r4).key
                    have hl : kvs.length = l.length := by have := congrArg List.length hk1; simpa using this.symm
                    refine .inr ⟨p0, _, rfl, .inl ⟨kvs, k, hv, hy, ?_, rfl⟩, h3 _ σ _ (n4.trans (q1 _)) q2⟩
                    rw [hl, ← line_eq]
                    exact c.2
                  · rw [if_neg c] at e6; cases e6
end
end Fw

/-! names changed; errors; try; displays of dicts -/
namespace Fw
open PySem PySem.Spec L2
section
variable {F : Fx} {K : PySem.W.Frag} {X : Cx} {pos : Pos} {D : Ends}
/-! ### name op= e -/
def AgS (K : PySem.W.Frag) (r : R2) (op : BOp) : Prop := ∀ (S : Ad) (H : Hp) (d e : Fw.D) (x y : V) (z : Fw.D) (Q : VK), Vw K S H d x → Vw K S H e y → augK op d e = some z → (∀ w, Rp K S H z w → Q w H) → r x y H Q
theorem iop_mulW : OpR X (inplaceOp .Mult) (L2.rI CMulW fun i j => .int (i * j)) := opI fun _ _ _ _ _ _ _ hc q => PyProof.Rows.imul_int q hc.ok
theorem aug_inv {op : BOp} {d e z : Fw.D} (h : augK op d e = some z) : (∃ i j k, d = .int i ∧ e = .int j ∧ z = .int k ∧ augI op i j = some k) ∨ ∃ x y, d = .str x ∧ e = .str y ∧ op = .add ∧ x.length + y.length ≤ sizeLine ∧ z = .str (x ++ y) := by
  unfold augK at h
  split at h
  · rename_i i j
    split at h
    · rename_i k e1
      cases h
      exact .inl ⟨i, j, k, rfl, rfl, rfl, e1⟩
    · cases h
  · rename_i x y
    split at h
    · rename_i c
      cases h
      exact .inr ⟨x, y, rfl, rfl, c.1, c.2, rfl⟩
    · cases h
  · cases h
theorem ag_add : AgS K (fun x y H Q => (rI0 fun i j => .int (i + j)) x y H Q ∨ (fun x y H Q => ∃ i j, x = .str i ∧ y = .str j ∧ i.length + j.length ≤ sizeLine ∧ Q (.str (i ++ j)) H : R2) x y H Q) .add := by
  intro S H d e x y z Q hx hy h q
  rcases aug_inv h with ⟨i, j, k, rfl, rfl, rfl, e⟩ | ⟨a, b, rfl, rfl, _, hz, rfl⟩
  · cases e
    exact .inl ⟨i, j, hx.int, hy.int, q _ (.int _)⟩
  · exact .inr ⟨a, b, hx.str, hy.str, hz, q _ (.str _)⟩
theorem ag_sub : AgS K (rI0 fun i j => .int (i - j)) .sub := by
  intro S H d e x y z Q hx hy h q
  rcases aug_inv h with ⟨i, j, k, rfl, rfl, rfl, e⟩ | ⟨a, b, rfl, rfl, c, _, _⟩
  · cases e
    exact ⟨i, j, hx.int, hy.int, q _ (.int _)⟩
  · cases c
theorem ag_mul : AgS K (L2.rI CMulW fun i j => .int (i * j)) .mul := by
  intro S H d e x y z Q hx hy h q
  rcases aug_inv h with ⟨i, j, k, rfl, rfl, rfl, e⟩ | ⟨a, b, rfl, rfl, c, _, _⟩
  · simp only [augI] at e
    split at e
    · rename_i c
      cases e
      exact ⟨i, j, hx.int, hy.int, by simpa [wideMul, CMulW] using c, q _ (.int _)⟩
    · cases e
  · cases c
theorem ag_fdiv : AgS K (L2.rI CDivW fun i j => .int (i / j)) .fdiv := by
  intro S H d e x y z Q hx hy h q
  rcases aug_inv h with ⟨i, j, k, rfl, rfl, rfl, e⟩ | ⟨a, b, rfl, rfl, c, _, _⟩
  · simp only [augI] at e
    split at e
    · rename_i c
      cases e
      have e : i.fdiv j = i / j := Int.fdiv_eq_ediv_of_nonneg i (by omega)
      exact ⟨i, j, hx.int, hy.int, c, q _ (by rw [e]; exact .int _)⟩
    · cases e
  · cases c
theorem ag_mod : AgS K (L2.rI (fun _ j => 0 < j) fun i j => .int (i % j)) .mod := by
  intro S H d e x y z Q hx hy h q
  rcases aug_inv h with ⟨i, j, k, rfl, rfl, rfl, e⟩ | ⟨a, b, rfl, rfl, c, _, _⟩
  · simp only [augI] at e
    split at e
    · rename_i c
      cases e
      have e : i.fmod j = i % j := Int.fmod_eq_emod_of_nonneg i (by omega)
      exact ⟨i, j, hx.int, hy.int, c, q _ (by rw [e]; exact .int _)⟩
    · cases e
  · cases c
theorem ag_pow {r : R2} : AgS K r .pow := by
  intro S H d e x y z Q hx hy h q
  rcases aug_inv h with ⟨i, j, k, rfl, rfl, rfl, e⟩ | ⟨a, b, rfl, rfl, c, _, _⟩
  · cases e
  · cases c
def iop_no : OpR X (inplaceOp .Pow) (fun _ _ _ _ => False) := fun _ _ _ _ _ _ _ _ _ _ _ _ h => h.elim
theorem ag_all (op : BOp) : ∃ r, PIp X (bopOf op) r ∧ AgS X.K r op := by
  cases op with
  | add => exact ⟨_, iop_add.or iop_add_str, ag_add⟩
  | sub => exact ⟨_, iop_sub, ag_sub⟩
  | mul => exact ⟨_, iop_mulW, ag_mul⟩
  | fdiv => exact ⟨_, iop_fdivW, ag_fdiv⟩
  | mod => exact ⟨_, iop_mod, ag_mod⟩
  | pow => exact ⟨_, iop_no, ag_pow⟩
theorem rs_aug {op : BOp} {i : Nat} {x : Str} {e : Expr} {pos' : Pos} {f : FE} (hK : F.K = X.K) (hN : X.N.Nodup) (hi : X.N[i]? = some x) (hx : L2.Loc X.env.scope x) (he : PE X e (RE F f)) (hf : X.fn x = true ∨ X.env.scope.names.lookup x = some .local) :
    PS X (.AugAssign (.Name x pos') (bopOf op) e pos) (RS F (augS F.ln op i f)) := by
  obtain ⟨r, ho, hs⟩ := ag_all (X := X) op
  refine (ps_aug hN hi hx he ho hf).imp fun D σ H q => ?_
  have qq := q
  obtain ⟨S, L, rep, q⟩ := qq
  unfold augS at q
  cases e1 : getL L i with
  | none => rw [e1] at q; exact q.elim
  | some v =>
    cases v with
    | own m => rw [e1] at q; exact q.elim
    | imm d =>
      rw [e1] at q
      obtain ⟨xv, hx1, hx2⟩ := rep.imm i d (getL_some e1)
      refine ⟨xv, hx1, ?_⟩
      refine go_S2 .refl rep q fun p L2 S2 H2 y n _ rep2 rel h2 => ?_
      have old := hx2.next n rep
      cases e2 : rd L2 p with
      | none => simp only [e2] at h2; exact h2.elim
      | some dy =>
        cases e3 : augK op d dy with
        | none => simp only [e2, e3] at h2; exact h2.elim
        | some z =>
          cases e4 : setV F.ln i (.imm z) L2 with
          | none => simp only [e2, e3, e4] at h2; exact h2.elim
          | some L3 =>
            simp only [e2, e3, e4] at h2
            refine hs S2 H2 d dy xv y z _ (.inl (by rw [← hK]; exact old)) (by rw [← hK]; exact rep2.view rel e2) e3 fun w hw => ?_
            rw [← hK] at hw
            obtain ⟨rep3, n3, _⟩ := set_imm (ln := F.ln) rep2 hw e4
            exact h2 _ _ _ (n.trans n3) rep3
end
end Fw

/-! membership, chains; raise, try; comprehensions; displays of dicts; methods of lists -/
namespace Fw
open PySem PySem.Spec L2
section
variable {F : Fx} {K : PySem.W.Frag} {X : Cx} {pos : Pos} {D : Ends}
/-! ### x in y -/
def rDIn (n : Bool) : R2 := fun x y H Q => ∃ a ov, y = .ref a ∧ DGet H a x ov ∧ Q (.bl (if n then !ov.isSome else ov.isSome)) H
theorem op_dIn (hu : X.A.units + 1 < cLine) : OpR X (compareOp .In) (rDIn false) := by
  intro pins s σ H x y v u Q I rx ry ⟨a, ov, ey, g, q⟩
  subst ey
  obtain rfl : u = Value.ref a := ry
  exact d_in hu I g rx fun s3 I3 => ⟨.bl ov.isSome, H, I3, rfl, q⟩
theorem op_dNotIn (hu : X.A.units + 1 < cLine) : OpR X (compareOp .NotIn) (rDIn true) := by
  intro pins s σ H x y v u Q I rx ry ⟨a, ov, ey, g, q⟩
  subst ey
  obtain rfl : u = Value.ref a := ry
  exact d_notIn hu I g rx fun s3 I3 => ⟨.bl (!ov.isSome), H, I3, rfl, q⟩
theorem Vw.flat {S : Ad} {H : Hp} {d : Fw.D} {x : V} (h : Vw K S H d x) (f : flatD d = true) : flatV x = true := by
  cases d with
  | none => rw [h.nn]; rfl
  | bool b => rw [h.bool]; rfl
  | int i => rw [h.int]; rfl
  | str z => rw [h.str]; rfl
  | _ => cases f
theorem eq_flat {S S' : Ad} {H H' : Hp} {d e : Fw.D} {x y : V} (h : Vw K S H d x) (g : Vw K S' H' e y) (f : flatD d = true) (f' : flatD e = true) : eqV x y = PyData.eqv d e := by
  have key : ∀ {d : Fw.D} {x : V} {S : Ad} {H : Hp}, Vw K S H d x → flatD d = true → (d = .none ∧ x = .non) ∨ (∃ b, d = .bool b ∧ x = .bl b) ∨ (∃ i, d = .int i ∧ x = .int i) ∨ ∃ z, d = .str z ∧ x = .str z := fun {d x S H} h f => by
    cases d with
    | none => exact .inl ⟨rfl, h.nn⟩
    | bool b => exact .inr (.inl ⟨b, rfl, h.bool⟩)
    | int i => exact .inr (.inr (.inl ⟨i, rfl, h.int⟩))
    | str z => exact .inr (.inr (.inr ⟨z, rfl, h.str⟩))
    | _ => cases f
  rcases key h f with ⟨rfl, rfl⟩ | ⟨b, rfl, rfl⟩ | ⟨b, rfl, rfl⟩ | ⟨b, rfl, rfl⟩ <;> rcases key g f' with ⟨rfl, rfl⟩ | ⟨c, rfl, rfl⟩ | ⟨c, rfl, rfl⟩ | ⟨c, rfl, rfl⟩ <;> simp [eqV, PyData.eqv]
theorem any_flat {S S' : Ad} {H H' : Hp} {d : Fw.D} {x : V} (h : Vw K S H d x) (f : flatD d = true) : ∀ {ds : List Fw.D} {vs : List V}, RpA K S' H' ds vs → ds.all flatD = true → vs.all flatV = true ∧ inV x vs = memD d ds
  | _, _, .nil, _ => ⟨rfl, rfl⟩
  | _, _, .cons (d := e) (v := y) r t, g => by
    rw [List.all_cons, Bool.and_eq_true] at g
    obtain ⟨h1, h2⟩ := any_flat h f t g.2
    refine ⟨?_, ?_⟩
    · rw [List.all_cons, h1, Vw.flat (K := K) (.inl r) g.1]; rfl
    · unfold inV memD at h2 ⊢
      rw [List.any_cons, List.any_cons, h2, eq_flat (K := K) (.inl r) h g.1 f]
def rInG (K : PySem.W.Frag) (n : Bool) : R2 := fun x y H Q => rIn K n x y H Q ∨ (if n then rNotInD K x y H Q else rInD K x y H Q) ∨ rDIn n x y H Q
theorem dget_val {S : Ad} {H : Hp} (k : Key) {l : List (Fw.D × Fw.D)} {kvs : List (Key × V)} (e : l.map Prod.fst = kvs.map (fun p => keyD p.1)) (t : RpA K S H (l.map Prod.snd) (kvs.map Prod.snd)) : (valV kvs k).isSome = (dget (keyD k) l).isSome := by
  rcases dget_kv k e t with ⟨h1, h2⟩ | ⟨d, v, h1, h2, _⟩ <;> rw [h1, h2] <;> rfl
theorem inD_sound {d e : Fw.D} {b : Bool} (h : inD d e = some b) : (∃ ds, e = .list ds ∧ SeqAt.shaped d = true ∧ SeqAt.shaped (.list ds) = true ∧ b = memD d ds) ∨ (∃ ds, e = .tuple ds ∧ flatD d = true ∧ ds.all flatD = true ∧ b = memD d ds) ∨
    ∃ l, e = .dict l ∧ isKey d = true ∧ b = (dget d l).isSome := by
  unfold inD at h
  split at h
  · split at h
    · rename_i c
      rw [Bool.and_eq_true] at c
      cases h
      exact .inl ⟨_, rfl, c.1, c.2, rfl⟩
    · cases h
  · split at h
    · rename_i c
      rw [Bool.and_eq_true] at c
      cases h
      exact .inr (.inl ⟨_, rfl, c.1, c.2, rfl⟩)
    · cases h
  · split at h
    · rename_i c
      cases h
      exact .inr (.inr ⟨_, rfl, c, rfl⟩)
    · cases h
  · cases h
theorem in_any (n : Bool) : CpS K (rInG K n) (fun d e => (inD d e).map fun b => if n then !b else b) := by
  intro S L σ H d e x y b Q rep hx hy h q
  obtain ⟨b0, h0, hb⟩ := Option.map_eq_some_iff.mp h
  rcases inD_sound h0 with ⟨ds, rfl, c1, c2, rfl⟩ | ⟨ds, rfl, c1, c2, rfl⟩ | ⟨l, rfl, c, rfl⟩
  · have hd := hx.dp (by have := c1; unfold SeqAt.shaped at this; simp only [Bool.and_eq_true] at this; exact this.1)
    have he := hy.dp (by have := c2; unfold SeqAt.shaped at this; simp only [Bool.and_eq_true] at this; exact this.1)
    cases n with
    | true => exact .inr (.inl ⟨d, ds, hd, he, c1, c2, by rw [if_pos rfl] at hb; unfold memD at hb; rw [hb]; exact q⟩)
    | false => exact .inr (.inl ⟨d, ds, hd, he, c1, c2, by rw [if_neg Bool.false_ne_true] at hb; unfold memD at hb; rw [hb]; exact q⟩)
  · obtain ⟨p, vs, rfl, sq, r⟩ := hy.tuple
    obtain ⟨h1, h2⟩ := any_flat hx c1 r c2
    refine .inl ⟨p, vs, rfl, .inr sq, hx.flat c1, h1, ?_⟩
    rw [h2, hb]
    exact q
  · obtain ⟨k, rfl⟩ := key_of c
    obtain ⟨p, kvs, rfl, r, e1, t⟩ := hy.dict
    have hk := hx.key
    subst hk
    refine .inr (.inr ⟨p, valV kvs k, rfl, .inl ⟨kvs, k, r, rfl, rfl⟩, ?_⟩)
    rw [dget_val k e1 t, hb]
    exact q
theorem op_inG (hu : X.A.units + 65 < cLine) : OpR X (compareOp .In) (rInG X.K false) := op_in_seq.or ((op_inD hu).or (op_dIn (by omega)))
theorem op_notInG (hu : X.A.units + 65 < cLine) : OpR X (compareOp .NotIn) (rInG X.K true) := op_notIn_seq.or ((op_notInD hu).or (op_dNotIn (by omega)))
theorem cp_isin : CpS K (rInG K false) (opC .isin) := fun S L σ H d e x y b Q rep hx hy h q => in_any false S L σ H d e x y b Q rep hx hy (by
  have h' : inD d e = some b := h
  show (inD d e).map _ = some b
  rw [h']; rfl) q
theorem cp_notin : CpS K (rInG K true) (opC .notin) := fun S L σ H d e x y b Q rep hx hy h q => in_any true S L σ H d e x y b Q rep hx hy h q
/-! ### every comparison -/
def copOf : COp → CmpOp
  | .eq => .Eq | .ne => .NotEq | .lt => .Lt | .le => .LtE | .gt => .Gt | .ge => .GtE | .isin => .In | .notin => .NotIn | .isN => .Is | .notN => .IsNot
theorem cop_all (hu : X.A.units + 65 < cLine) (op : COp) : ∃ r, OpR X (compareOp (copOf op)) r ∧ CpS X.K r (opC op) := by
  cases op with
  | eq => exact ⟨_, op_eqD (by omega), cp_eq⟩
  | ne => exact ⟨_, op_neD (by omega), cp_ne⟩
  | lt => exact ⟨_, op_lt, cp_lt⟩
  | le => exact ⟨_, op_le, cp_le⟩
  | gt => exact ⟨_, op_gt, cp_gt⟩
  | ge => exact ⟨_, op_ge, cp_ge⟩
  | isin => exact ⟨_, op_inG hu, cp_isin⟩
  | notin => exact ⟨_, op_notInG hu, cp_notin⟩
  | isN => exact ⟨_, op_isN, cp_isN⟩
  | notN => exact ⟨_, op_notN, cp_notN⟩
theorem rc_all {op : COp} {a b : Expr} {f g : FE} (hK : F.K = X.K) (hu : X.A.units + 65 < cLine) (ha : PE X a (RE F f)) (hb : PE X b (RE F g)) : PC X (copOf op) a b (RE F (cmpF op f g)) := by
  obtain ⟨r, h1, h2⟩ := cop_all (X := X) hu op
  exact rc_cmp h1 (hK ▸ h2) ha hb
/-! ### a chain of two -/
theorem chain_ok {o1 o2 : COp} {r r' : R2} {f g h : FE} (h1 : CpS F.K r (opC o1)) (h2 : CpS F.K r' (opC o2)) {σ : St} {H : Hp} {Q : Bool → Hp → Prop} {Q' : VK} (hQ : ∀ b H, Q b H → Q' (.bl b) H) (q : RT F (chnT o1 o2 f g h) σ H Q) :
    tChain r r' (RE F f) (RE F g) (RE F h) σ H Q' := by
  refine go1 q fun S L p L1 S1 H1 x rep n1 rep1 rel1 q1 => ?_
  refine go2 n1 rep1 q1 fun p2 L2 S2 H2 y n2 n12 rep2 rel2 q2 => ?_
  have rel1' : RelP F.K H S2 L2 σ H2 p x := RelP.next n12 rep1 rel1
  cases e1 : rd L2 p with
  | none => simp only [e1] at q2; exact q2.elim
  | some d =>
    cases e2 : rd L2 p2 with
    | none => simp only [e1, e2] at q2; exact q2.elim
    | some e =>
      simp only [e1, e2] at q2
      cases e3 : opC o1 d e with
      | none => simp only [e3] at q2; exact q2.elim
      | some b =>
        refine h1 S2 L2 σ H2 d e x y b _ rep2 (rep2.view rel1' e1) (rep2.view rel2 e2) e3 ⟨b, rfl, ?_⟩
        cases b with
        | false =>
          rw [if_neg Bool.false_ne_true]
          simp only [e3] at q2
          exact hQ _ _ (q2.here n2 rep2 rfl)
        | true =>
          rw [if_pos rfl]
          simp only [e3] at q2
          refine go2 n2 rep2 q2 fun p3 L3 S3 H3 z n3 n23 rep3 rel3 q3 => ?_
          have rel2' : RelP F.K H1 S3 L3 σ H3 p2 y := RelP.next n23 rep2 rel2
          cases e4 : rd L3 p2 with
          | none => simp only [e4] at q3; exact q3.elim
          | some e' =>
            cases e5 : rd L3 p3 with
            | none => simp only [e4, e5] at q3; exact q3.elim
            | some c =>
              simp only [e4, e5] at q3
              cases e6 : opC o2 e' c with
              | none => simp only [e6, ofOpt] at q3; exact q3.elim
              | some b =>
                simp only [e6, ofOpt] at q3
                exact h2 S3 L3 σ H3 e' c y z b _ rep3 (rep3.view rel2' e4) (rep3.view rel3 e5) e6 (hQ _ _ (q3.here n3 rep3 rfl))
theorem rt_chn {o1 o2 : COp} {a b c : Expr} {f g h : FE} (hK : F.K = X.K) (hu : X.A.units + 65 < cLine) (ha : PE X a (RE F f)) (hb : PE X b (RE F g)) (hc : PE X c (RE F h)) (hm : lastMarks [copOf o1, copOf o2] [b, c] = false) : PT X (.Compare a [copOf o1, copOf o2] [b, c] pos) (RT F (chnT o1 o2 f g h)) := by
  obtain ⟨r, k1, k2⟩ := cop_all (X := X) hu o1
  obtain ⟨r', k3, k4⟩ := cop_all (X := X) hu o2
  exact (pt_chain k1 k3 ha hb hc hm).imp fun σ H Q q => chain_ok (hK ▸ k2) (hK ▸ k4) (fun b H h => ⟨b, rfl, h⟩) q
theorem re_chn {o1 o2 : COp} {a b c : Expr} {f g h : FE} (hK : F.K = X.K) (hu : X.A.units + 65 < cLine) (ha : PE X a (RE F f)) (hb : PE X b (RE F g)) (hc : PE X c (RE F h)) (hm : lastMarks [copOf o1, copOf o2] [b, c] = false) : PE X (.Compare a [copOf o1, copOf o2] [b, c] pos) (RE F (ofT (chnT o1 o2 f g h))) := by
  obtain ⟨r, k1, k2⟩ := cop_all (X := X) hu o1
  obtain ⟨r', k3, k4⟩ := cop_all (X := X) hu o2
  refine (pe_chain k1 k3 ha hb hc hm).imp fun σ H Q q => ?_
  refine chain_ok (hK ▸ k2) (hK ▸ k4) (Q := fun b H => Q (.bl b) H) (fun b H h => h) (go1 q fun S L a L2 S2 H2 b rep n rep2 rel h => ?_)
  cases rel
  exact h.here n rep2 (.bl a)
/-! ### raise, try -/
theorem rs_raise {c : Nat} {C : Addr} {bmB : List Value} {B newId initId : String} {x m : Str} {j : Nat} {p p2 pos' : Pos} (hc : X.calm = true) (tk : Takes X F.W) (EF : ExcBaseFacts B newId initId bmB) (q : PySem.W.excIn X.K C bmB newId = true) (gC : X.mg x = some (.ref C)) (kC : PySem.W.keepIn X.K (.ref C) = true) (r : Raises X (.ref C)) (hg : Gl X x) (hca : F.ca c = .ref C)
    (hdb : (x == ("__debug__" : Str)) = false) : PS X (.Raise (some (.Call (.Name x p) [.Constant (.str m) j p2] [] pos')) none pos) (RS F fun L => .err c L) := by
  refine (ps_raise hc tk (pmk_own EF q gC kC r hg hdb)).imp fun D σ H ⟨S, L, rep, h⟩ => ?_
  show F.W (.ref C) none σ H
  rw [← hca]
  exact h S σ H .refl rep
theorem rs_try {x : Str} {cv : Value} {body suite : List Stmt} {b₀ : Stmt} {np pos' : Pos} {yes no : List Nat} {f g : FS} (hs : X.stack = X.env :: X.outer) (hf : X.env.frame = some X.env.locals) (hc : Names X x cv) (tk : Takes X F.W)
    (hy : ∀ c ∈ yes, PySem.W.exmOne X.K (F.ca c) cv = some true) (hn : ∀ c ∈ no, PySem.W.exmOne X.K (F.ca c) cv = some false)
    (hb : ∀ (W : WX) (pn : List (Addr × Obj)) (xe : Value → Shared → Prop), Takes (X.tr pn xe) W → PassesOwn (model X.prog X.w) X.A X.env xe → PSs (X.tr pn xe) body (RS { F with W := W } f))
    (hsu : ∀ (a : Addr) (oe : Obj) (cls : Value) (d : Option Addr) (pn : List (Addr × Obj)), Zc cls d oe → (∃ vs, oe.data = .fields vs) → PSs (X.suite a ((a, oe) :: pn)) (b₀ :: suite) (RS F g)) :
    PS X (.Try body [.ExceptHandler (some (.Name x np)) none (b₀ :: suite) pos'] [] [] pos) (RS F (tryS f yes no g)) := by
  refine (ps_try_only (tb := fun W => RS { F with W := W } f) (ts := fun _ _ _ => RS F g) (Wout := F.W) hs hf hc tk hb hsu).imp fun D σ H ⟨S, L, rep, q⟩ => ⟨S, L, rep, ?_⟩
  unfold tryS at q
  cases e : f L with
  | next L1 => rw [e] at q; exact q
  | brk L1 => rw [e] at q; exact q
  | cont L1 => rw [e] at q; exact q
  | ret v L1 => rw [e] at q; exact q
  | bad => rw [e] at q; exact q
  | err c L1 =>
    simp only [e] at q
    intro S' σ' H' n rep'
    by_cases c1 : c ∈ yes
    · rw [if_pos c1] at q
      exact ⟨true, hy c c1, fun _ a _ => ⟨S', L1, rep', AftS.from n q⟩, fun z => Bool.noConfusion z⟩
    · rw [if_neg c1] at q
      by_cases c2 : c ∈ no
      · rw [if_pos c2] at q
        exact ⟨false, hn c c2, fun z => Bool.noConfusion z, fun _ => q S' σ' H' n rep'⟩
      · rw [if_neg c2] at q
        exact q.elim
/-! ### comprehensions -/
theorem re_comp {elt tg iter : Expr} {ifs : List Expr} {scope : Scope} {ow : List (Str × Nat)} {own : List Nat} {tgE : E} {g : TG} {it : FI} {cond : FT} {ef : FE} (hown : own = ow.map (·.2)) (hc : X.calm = true) (hN : X.N.Nodup) (hi : PI X tg iter (RI F it)) (ok : BlkOk X.N X.env.scope scope ow)
    (hsl : ∀ j ∈ slots tgE, j ∈ own) (hgs : TgS F.K F.ln tgE g)
    (hg : ∀ (s : Shared) (H : Hp) (C : Addr) (cl : List (Str × Addr)) (fp : List Addr), PG (X.blk s H scope (compEnvC scope cl C X.env) fp) tg g)
    (ht : ∀ (s : Shared) (H : Hp) (C : Addr) (cl : List (Str × Addr)) (fp : List Addr), PTs (X.blk s H scope (compEnvC scope cl C X.env) fp) ifs (RT F.nox cond))
    (he : ∀ (s : Shared) (H : Hp) (C : Addr) (cl : List (Str × Addr)) (fp : List Addr), PE (X.blk s H scope (compEnvC scope cl C X.env) fp) elt (RE F.nox ef)) (hs : ∀ x, foldedSetIterable iter X.env x = pure x) :
    PE X (.ListComp elt [⟨tg, iter, ifs, 0⟩] scope pos) (RE F (compF own it (asgD F.ln tgE) cond ef)) := by
  subst hown
  exact (pe_lc hc hN hi ok hg ht he hs).imp fun σ H Q q => lc_read hsl hgs q
theorem rs_asgC {i : Nat} {y : Str} {py spos : Pos} {elt tg iter : Expr} {ifs : List Expr} {scope : Scope} {ow : List (Str × Nat)} {own : List Nat} {tgE : E} {g : TG} {it : FI} {cond : FT} {ef : FE} (hown : own = ow.map (·.2)) (hc : X.calm = true) (hN : X.N.Nodup) (hy : X.N[i]? = some y) (hyl : X.env.scope.names.lookup y = some .local)
    (hsw : swapsWith (.ListComp elt [⟨tg, iter, ifs, 0⟩] scope pos) (some (.Name y py)) spos.line X.env = pure true) (hi : PI X tg iter (RI F it)) (ok : BlkOk X.N X.env.scope scope ow)
    (hsl : ∀ j ∈ slots tgE, j ∈ own) (hgs : TgS F.K F.ln tgE g)
    (hg : ∀ (s : Shared) (H : Hp) (C : Addr) (cl : List (Str × Addr)) (fp : List Addr), PG (X.blk s H scope (compEnvC scope cl C X.env) fp) tg g)
    (ht : ∀ (s : Shared) (H : Hp) (C : Addr) (cl : List (Str × Addr)) (fp : List Addr), PTs (X.blk s H scope (compEnvC scope cl C X.env) fp) ifs (RT F.nox cond))
    (he : ∀ (s : Shared) (H : Hp) (C : Addr) (cl : List (Str × Addr)) (fp : List Addr), PE (X.blk s H scope (compEnvC scope cl C X.env) fp) elt (RE F.nox ef)) (hs : ∀ x, foldedSetIterable iter X.env x = pure x) :
    PS X (.Assign [.Name y py] (.ListComp elt [⟨tg, iter, ifs, 0⟩] scope pos) spos) (RS F (asgS F.ln i (compF own it (asgD F.ln tgE) cond ef))) := by
  subst hown
  exact (ps_setLc hc hN hy hyl hsw hi ok hg ht he hs).imp fun D σ H q => lc_read hsl hgs (asg_read q)
theorem rts_nil : PTs X [] (RT F fun L => .ok true L) := by
  have h : PTs X [] tYes := pts_nil
  exact ⟨fun pins s σ H Q I ⟨S, L, rep, q⟩ => h.run pins s σ H Q I (q.here .refl rep rfl)⟩
/-! ### methods of lists -/
theorem re_append {i : Nat} {x : Str} {px apos : Pos} {e : Expr} {f : FE} (hK : F.K = X.K) (hx : PE X (.Name x px) (tVar i)) (he : PE X e (RE F f)) (hst : starEach (e :: []) X.env = (false, eval e X.env) :: starEach [] X.env)
    (hline : (apos.endLine == pos.line) = true)
    (hfew : ((backTo pos (starEach [e] X.env)).all (fun x => !x.1) && (backToKw pos (keywordEach [] X.env)).all (fun x => x.1.isSome) && decide (([e] : List Expr).length + ([] : List Keyword).length + (if ([] : List Keyword).isEmpty then 0 else 1) < 30)) = true) :
    PE X (.Call (.Attribute (.Name x px) "append" apos) [e] [] pos) (RE F (atF i f kAppend)) := by
  refine re_at hK PySem.F.slot_list_append rfl mt_append ?_ ?_ hx he hst rfl hline hfew
  · intro S H p ds vs d y z m' Q hp r ry e q
    simp only [kAppend] at e
    split at e
    · rename_i c
      cases e
      refine ⟨p, vs, y, rfl, rfl, hp, by rw [← r.length, ← line_eq]; exact c, q _ _ _ rfl (r.append (.cons ry .nil)) .non⟩
    · cases e
  · intro m d z m' e
    cases m with
    | lst ds =>
      simp only [kAppend] at e
      split at e
      · cases e; exact ⟨⟨ds, rfl⟩, _, rfl⟩
      · cases e
    | dic l => cases e
theorem ix_seq {n : Nat} {i : Int} {j : Nat} (h : ixD n i = some j) : seqIndex? i n = some j := by
  unfold ixD at h
  unfold seqIndex?
  split at h
  · split at h
    · cases h
      rename_i c1 c2
      have c3 : ¬ i < 0 := by omega
      simp [c3, c1, c2]
    · cases h
  · split at h
    · cases h
      rename_i c1 c2
      have c3 : i < 0 := by omega
      simp [c3]
      omega
    · cases h
/-! ### {k: v, ..} -/
theorem consA_ok {f : FE} {r : FA} {σ : St} {H : Hp} {Y : List V → Hp → Prop} (q : RA F (consA f r) σ H Y) : RE F f σ H fun x H1 => RA F r σ H1 fun xs H2 => Y (x :: xs) H2 := by
  refine go1 q fun S L p L1 S1 H1 x rep n1 rep1 rel h => ?_
  refine go2 n1 rep1 h fun ps L2 S2 H2 xs n2 n12 rep2 rels h2 => ?_
  refine h2.here n2 rep2 (.cons (RelP.next n12 rep1 rel) (fun m em j m' ej => ?_) (rels.back n1.there))
  obtain ⟨y, e1, e2⟩ := rels.get ej
  obtain ⟨q, eq, _, _, q3, _⟩ := e2
  subst em
  obtain ⟨q', eq', _, _, _, q4'⟩ := rel
  rw [e1, eq, eq']
  intro z
  cases z
  exact q4'.so q3
inductive PairsOf (F : Fx) : FA → List (TE × TE) → Prop where
  | nil : PairsOf F nilA []
  | cons {f g : FE} {r : FA} {trs : List (TE × TE)} (t : PairsOf F r trs) : PairsOf F (consA f (consA g r)) ((RE F f, RE F g) :: trs)
def flatP : List (V × V) → List V
  | [] => []
  | (x, y) :: r => x :: y :: flatP r
theorem pairs_ok {r : FA} {trs : List (TE × TE)} (p : PairsOf F r trs) : ∀ {σ : St} {H : Hp} {Y : List V → Hp → Prop} {Z : List (V × V) → Hp → Prop}, (∀ ps H, Y (flatP ps) H → Z ps H) → RA F r σ H Y → tPairs trs σ H Z := by
  induction p with
  | nil => exact fun {σ H Y Z} z ⟨S, L, rep, q⟩ => z [] H (q.here .refl rep .nil)
  | cons t ih => exact fun {σ H Y Z} z q => (consA_ok q).mono fun x H1 q1 => (consA_ok q1).mono fun y H2 q2 => ih (fun ps H y => z _ H y) q2
theorem pairUp_ok {S : Ad} {H : Hp} : ∀ {ps : List (V × V)} {ds : List Fw.D} {l : List (Fw.D × Fw.D)}, RpA K S H ds (flatP ps) → pairUp ds = some l → ∃ kvs : List (Key × V), ps = kvs.map (fun kv => (kV kv.1, kv.2)) ∧ l.map Prod.fst = kvs.map (fun p => keyD p.1) ∧ RpA K S H (l.map Prod.snd) (kvs.map Prod.snd)
  | [], _, l, r, e => by
    unfold flatP at r
    cases r
    cases e
    exact ⟨[], rfl, rfl, .nil⟩
  | (x, y) :: ps, _, l, r, e => by
    unfold flatP at r
    cases r with
    | cons r1 r =>
      cases r with
      | cons r2 r =>
        unfold pairUp at e
        split at e
        · rename_i c
          obtain ⟨l', e', rfl⟩ := Option.map_eq_some_iff.mp e
          obtain ⟨kvs, rfl, h1, h2⟩ := pairUp_ok r e'
          obtain ⟨k, rfl⟩ := key_of c
          have hk := Vw.key (K := K) (.inl r1)
          subst hk
          exact ⟨(k, y) :: kvs, rfl, by rw [List.map_cons, List.map_cons, h1], .cons r2 h2⟩
        · cases e
theorem merge_kv {S : Ad} {H : Hp} : ∀ {m : List (Fw.D × Fw.D)} {ms : List (Key × V)} {l : List (Fw.D × Fw.D)} {kvs : List (Key × V)}, l.map Prod.fst = kvs.map (fun p => keyD p.1) → RpA K S H (l.map Prod.snd) (kvs.map Prod.snd) →
    m.map Prod.fst = ms.map (fun p => keyD p.1) → RpA K S H (m.map Prod.snd) (ms.map Prod.snd) → (mergeD l m).map Prod.fst = (mergeK kvs ms).map (fun p => keyD p.1) ∧ RpA K S H ((mergeD l m).map Prod.snd) ((mergeK kvs ms).map Prod.snd)
  | [], [], l, kvs, h1, h2, _, _ => ⟨h1, h2⟩
  | [], _ :: _, _, _, _, _, e, _ => by cases e
  | _ :: _, [], _, _, _, _, e, _ => by cases e
  | (k, v) :: m, (j, w) :: ms, l, kvs, h1, h2, e, r => by
    simp only [List.map_cons, List.cons.injEq] at e
    obtain ⟨rfl, e⟩ := e
    cases r with
    | cons r1 r =>
      have r1' : Rp K S H v w := r1
      obtain ⟨q1, q2⟩ := put_kv (k := j) r1' h1 h2
      have fin := merge_kv q1 q2 e r
      exact fin
theorem pairUp_len {S : Ad} {H : Hp} {l : List (Fw.D × Fw.D)} {kvs : List (Key × V)} (e : l.map Prod.fst = kvs.map (fun p => keyD p.1)) : l.length = kvs.length := by
  have := congrArg List.length e
  simpa using this
theorem re_dct {keys : List (Option Expr)} {values : List Expr} {trs : List (TE × TE)} {r : FA} (h : PPs X pos keys values trs) (hp : PairsOf F r trs) (hall : keys.all (·.isSome) = true) (hl : keys.length = values.length) (h0 : keys ≠ []) (h15 : keys.length ≤ 15) : PE X (.Dict keys values pos) (RE F (dctF r)) := by
  refine (pe_disp h hall hl h0 h15).imp fun σ H Q ⟨S, L, rep, q⟩ p hp0 => ?_
  have rep1 : Rep F.K S L σ (upd H p (.dK [])) := rep.upd_new hp0
  have n1 : Nxt F.ln L σ S H L σ S (upd H p (.dK [])) := .alloc hp0
  have nS : ¬ S p := rep.notS hp0
  have nO : ¬ OwnA L σ p := rep.notNew hp0
  have main : RA F r σ (upd H p (.dK [])) fun xs H2 => ∀ ps, xs = flatP ps → H2 p = some (.dK []) ∧ ∃ kvs : List (Key × V), ps = kvs.map (fun kv => (kV kv.1, kv.2)) ∧ kvs.length ≤ 15 ∧ Q (.ref p) (upd H2 p (.dK (mergeK [] kvs))) := by
    refine go2 n1 rep1 q fun ps L2 S2 H2 xs n2 n12 rep2 rels h2 pp exs => ?_
    subst exs
    cases e : keepAll ps L2 with
    | bad => simp only [e, Res.bind] at h2; exact h2.elim
    | err c L3 => exact absurd e keepAll_noerr
    | ok ds L3 =>
      simp only [e, Res.bind] at h2
      obtain ⟨S3, n3, rep3, r3, _⟩ := keepAll_ok n12 rep2 rels e
      have pn : (upd H p (.dK [])) p = some (HO.dK []) := upd_same
      have h2p : H2 p = some (.dK []) := n3.keep p _ pn nO
      have nS3 : ¬ S3 p := fun z => by
        rcases n3.new p z with z | z | z
        · exact nS z
        · rw [pn] at z; cases z
        · exact nO z
      have nO3 : ¬ OwnA L3 σ p := fun z => by
        rcases n3.own p z with z | z
        · exact nO z
        · rw [pn] at z; cases z
      cases e2 : pairUp ds with
      | none => simp only [e2] at h2; exact h2.elim
      | some l =>
        simp only [e2] at h2
        obtain ⟨kvs, e3, k1, k2⟩ := pairUp_ok r3 e2
        by_cases c : l.length ≤ 15
        · rw [if_pos c] at h2
          have hl' : l.length = kvs.length := by
            have := congrArg List.length k1
            simpa using this
          refine ⟨h2p, kvs, e3, by omega, ?_⟩
          obtain ⟨m1, m2⟩ := merge_kv (l := []) (kvs := []) rfl .nil k1 k2
          have st : ∀ a o', S3 a → H2 a = some o' → upd H2 p (.dK (mergeK [] kvs)) a = some o' := fun a o' hh e => by rw [upd_ne (show a ≠ p from fun z => nS3 (z ▸ hh))]; exact e
          refine h2 S3 _ _ ⟨(n1.trans n3).sub, (n1.trans n3).new, fun a o ea na => ?_, fun a ha => ?_, (n1.trans n3).own, fun _ => rfl⟩ (rep_other rep3 nS3 nO3) ⟨p, rfl, nS3, nO3, hp0, mergeK [] kvs, upd_same, m1, m2.mono (fun _ h => h) st⟩
          · rw [upd_ne (ne_none hp0 ea)]
            exact (n1.trans n3).keep a o ea na
          · by_cases z : a = p
            · rw [z, upd_same]; simp
            · rw [upd_ne z]; exact (n1.trans n3).there a ha
        · rw [if_neg c] at h2; exact h2.elim
  exact pairs_ok hp (fun ps H y => y ps rfl) main
end
end Fw

/-! what holds in a context; callees, classes; a def's promise from its body -/
namespace Fw
open PySem PySem.Spec L2
structure Ch (X : Cx) (F : Fx) : Prop where
  K : F.K = X.K
  nd : X.N.Nodup
  u : X.A.units + 65 < cLine
structure Cb (X : Cx) (F : Fx) (k : Nat) : Prop extends Ch X F where
  rm : Room k X.A
  calm : X.calm = true
  tk : Takes X F.W
structure Cn (X : Cx) (F : Fx) (k : Nat) : Prop extends Cb X F k where
  po : PassesOwn (model X.prog X.w) X.A X.env X.xe
  stk : X.stack = X.env :: X.outer
  fr : X.env.frame = some X.env.locals
/-- a def that may be called -/
structure Cal (P : Program) (w : World) (K : PySem.W.Frag) (mg : Str → Option Value) (base : Heap) (ca : Nat → Value) (C : Calls) (k j : Nat) (x : Str) (n : Nat) (lent : Bool) : Prop where
  ex : ∃ a fd ps, FnOk P w K mg base (L2.CX P w) k a fd ps (FnS K ca n (C j) lent) ∧ mg x = some (.ref a) ∧ PySem.W.keepIn K (.ref a) = true ∧ Binds K fd ps []
  ar : ∀ as, C j as ≠ .bad → as.length = n
  db : (x == ("__debug__" : Str)) = false
/-- an own class of errors -/
structure Kls (K : PySem.W.Frag) (mg : Str → Option Value) (ca : Nat → Value) (c : Nat) (x : Str) : Prop where
  ex : ∃ C bmB B newId initId, ExcBaseFacts B newId initId bmB ∧ PySem.W.excIn K C bmB newId = true ∧ mg x = some (.ref C) ∧ PySem.W.keepIn K (.ref C) = true ∧ ca c = .ref C ∧
    PySem.W.subIn K (.ref C) (.type "BaseException") = some true ∧ PySem.W.typeIn K (.ref C) = some (.type "type")
  db : (x == ("__debug__" : Str)) = false
section
variable {F : Fx} {X : Cx} {k : Nat} {pos : Pos}
theorem Cn.tr (c : Cn X F k) {pn : List (Addr × Obj)} {xe : Value → Shared → Prop} {W : WX} (tk : Takes (X.tr pn xe) W) (po : PassesOwn (model X.prog X.w) X.A X.env xe) : Cn (X.tr pn xe) { F with W := W } k :=
  { K := c.K, nd := c.nd, u := c.u, rm := c.rm, calm := c.calm, tk := tk, po := po, stk := c.stk, fr := c.fr }
theorem Cb.blk (c : Cb X F k) {s : Shared} {H : Hp} {scope : Scope} {cenv : Env} {fp : List Addr} : Cb (X.blk s H scope cenv fp) F.nox k :=
  { K := c.K, nd := c.nd, u := c.u, rm := c.rm, calm := c.calm, tk := takes0 }
theorem Ch.suite (c : Ch X F) {a : Addr} {pn : List (Addr × Obj)} : Ch (X.suite a pn) F := ⟨c.K, c.nd, c.u⟩
end
section
variable {P : Program} {w : World} {K : PySem.W.Frag} {mg : Str → Option Value} {base : Heap} {ca : Nat → Value} {C : Calls} {G : Nat → Option D} {Wn k : Nat}
/-- the reading's frame of a def -/
def fxOf (K : PySem.W.Frag) (ca : Nat → Value) (ln : Bool) (E : XK) : Fx := ⟨K, ln, fun cls d _ H => E cls d H, ca⟩
theorem cn_def {N : List Str} {qual : Str} {scope : Scope} {f : Addr} {cd : Value} {A : Around} {outer : List Env} {s : Shared} {H : Hp} {E : XK} {ln : Bool} (hr : Room k (A.deeper (PyProof.Rows.envOfC qual scope s.heap.objs.size f cd))) (hN : N.Nodup) :
    Cn (cxOf (L2.CX P w) P w K mg base N qual scope f cd A outer s H E) (fxOf K ca ln E) k where
  K := rfl
  nd := hN
  u := by have := hr.un; show (A.deeper _).units + 65 < cLine; omega
  rm := hr
  calm := rfl
  tk := takes_of rfl rfl rfl rfl
  po := passes_of rfl
  stk := rfl
  fr := rfl
theorem map_get {as : List LVal} {n i : Nat} {v : LVal} (h : (as.map some ++ List.replicate n none : Loc)[i]? = some (some v)) : as[i]? = some v := by
  by_cases c : i < as.length
  · rw [List.getElem?_append_left (by simpa using c), List.getElem?_map] at h
    cases e : as[i]? with
    | none => rw [e] at h; cases h
    | some a => rw [e] at h; cases h; rfl
  · rw [List.getElem?_append_right (by simpa using Nat.le_of_not_lt c), List.getElem?_replicate] at h
    split at h <;> cases h
theorem start_get {N : List Str} {vs : List V} {i : Nat} {x : V} (h : vs[i]? = some x) : (L2.start N vs)[i]? = some (some x) := by
  have c : i < vs.length := (List.getElem?_eq_some_iff.mp h).1
  unfold L2.start
  rw [List.getElem?_append_left (by simpa using c), List.getElem?_map, h]
  rfl
theorem start_rep {S : Ad} {H : Hp} {lent : Bool} {A : Option Addr} {as : List LVal} {vs : List V} {N : List Str} {nl : Nat} (h : ArgR K S H lent A as vs) (hN : N.length = nl) (trk : ∀ a, S a → H a ≠ none) :
    Rep K S (as.map some ++ List.replicate (nl - as.length) none) (L2.start N vs) H ∧ ∀ a, OwnA (as.map some ++ List.replicate (nl - as.length) none) (L2.start N vs) a → lent = true ∧ A = some a ∧ (L2.start N vs)[0]? = some (some (.ref a)) := by
  have hl : as.length = vs.length := by
    cases lent with
    | true =>
      obtain ⟨p, m, ds, xs, _, rfl, rfl, _, _, r⟩ := h
      have := r.length
      simp [this]
    | false =>
      obtain ⟨_, ds, rfl, r⟩ := h
      have := r.length
      simp [this]
  have own1 : ∀ i m, as[i]? = some (LVal.own m) → lent = true ∧ i = 0 ∧ ∃ p, A = some p ∧ vs[0]? = some (.ref p) ∧ ¬ S p ∧ OwnR K S H m p := fun i m e => by
    cases lent with
    | true =>
      obtain ⟨p, m', ds, xs, rfl, rfl, rfl, nS, ow, r⟩ := h
      cases i with
      | zero => simp at e; subst e; exact ⟨rfl, rfl, p, rfl, rfl, nS, ow⟩
      | succ i =>
        simp [List.getElem?_map] at e
    | false =>
      obtain ⟨_, ds, rfl, r⟩ := h
      simp [List.getElem?_map] at e
  refine ⟨⟨?_, fun i d e => ?_, fun i m e => ?_, fun i j m m' p e1 e2 _ _ => ?_, trk⟩, fun a ⟨i, m, e, e2⟩ => ?_⟩
  · unfold L2.start
    simp [hl, hN]
  · have e := map_get e
    have : ∃ v, vs[i]? = some v ∧ Rp K S H d v := by
      cases lent with
      | true =>
        obtain ⟨p, m', ds, xs, _, rfl, rfl, nS, ow, r⟩ := h
        cases i with
        | zero => simp at e
        | succ i =>
          simp [List.getElem?_map] at e
          obtain ⟨v, h1, h2⟩ := r.get e
          exact ⟨v, by simpa using h1, h2⟩
      | false =>
        obtain ⟨_, ds, rfl, r⟩ := h
        simp [List.getElem?_map] at e
        obtain ⟨v, h1, h2⟩ := r.get e
        exact ⟨v, h1, h2⟩
    obtain ⟨v, h1, h2⟩ := this
    exact ⟨v, start_get h1, h2⟩
  · obtain ⟨_, rfl, p, _, h2, h3, h4⟩ := own1 i m (map_get e)
    exact ⟨p, start_get h2, h3, h4⟩
  · rw [(own1 i m (map_get e1)).2.1, (own1 j m' (map_get e2)).2.1]
  · obtain ⟨h0, rfl, p, h1, h2, h3, h4⟩ := own1 i m (map_get e)
    have := start_get (N := N) h2
    rw [e2] at this
    cases this
    exact ⟨h0, h1, e2⟩
theorem lentZ_ok {S S' : Ad} {H H' : Hp} {lent : Bool} {A : Option Addr} {L L' : Loc} {σ σ' : St} {z : Option LVal} (n : Nxt lent L σ S H L' σ' S' H') (rep' : Rep K S' L' σ' H') (hA : ∀ p, A = some p → lent = true ∧ σ[0]? = some (some (.ref p))) (e : lentZ lent L' = some z) :
    ∀ p, A = some p → ∃ lv, z = some lv ∧ ZR K S' H' p lv := by
  intro p hp
  obtain ⟨hl, h0⟩ := hA p hp
  unfold lentZ at e
  rw [if_pos hl] at e
  cases e1 : getL L' 0 with
  | none => rw [e1] at e; cases e
  | some v =>
    rw [e1] at e
    cases e
    have h1 : σ'[0]? = some (some (.ref p)) := (n.lent hl).trans h0
    refine ⟨v, rfl, ?_⟩
    cases v with
    | imm d =>
      obtain ⟨x, q1, q2⟩ := rep'.imm 0 d (getL_some e1)
      rw [h1] at q1
      cases q1
      exact q2
    | own m =>
      obtain ⟨x, q1, q2, q3⟩ := rep'.own 0 m (getL_some e1)
      rw [h1] at q1
      cases q1
      exact ⟨q2, q3⟩
/-- a def's promise, from the reading of its body -/
theorem def_okE {CX : CXT} {E' : XK → XK} {d : Def} {x qual : Str} {params : Arguments} {body : List Stmt} {scope : Scope} {f : Addr} {fd : FuncData} {N ps : List Str} (FD : FunD K x qual params body scope [] [] f fd) (S : FnScope N ps scope) (hp : ps.length = d.np) (hN : N.length = d.nl)
    (cn : ∀ (cdv : Value) (A : Around) (outer : List Env) (s : Shared) (H : Hp) (E : XK), Room k (A.deeper (PyProof.Rows.envOfC qual scope s.heap.objs.size f cdv)) → Cn (cxOf CX P w K mg base N qual scope f cdv A outer s H E) (fxOf K ca d.lent (E' E)) k)
    (hb : ∀ (cdv : Value) (A : Around) (outer : List Env) (s : Shared) (H : Hp) (E : XK), Cn (cxOf CX P w K mg base N qual scope f cdv A outer s H E) (fxOf K ca d.lent (E' E)) k →
      PSs (cxOf CX P w K mg base N qual scope f cdv A outer s H E) body (RS (fxOf K ca d.lent (E' E)) (denS C G d.lent Wn d.body))) :
    FnOk P w K mg base CX (k + 1) f fd ps (fun vs H Q E => FnS K ca d.np (runDef C G Wn d) d.lent vs H Q (E' E)) := by
  refine FD.ok S (fun vs H Q E h => by rw [hp]; exact h.len) (fun cdv A outer s H vs Q E hr h => ⟨_, hb cdv A outer s H E (cn cdv A outer s H E hr), ?_⟩)
  obtain ⟨S0, A0, as, ha, hl, trk, h⟩ := h
  unfold runDef at h
  rw [if_pos hl] at h
  obtain ⟨rep, ow⟩ := start_rep (N := N) (nl := d.nl) ha hN trk
  rw [hl] at rep ow
  refine ⟨S0, _, rep, ?_⟩
  have hA : ∀ p, A0 = some p → d.lent = true ∧ (L2.start N vs)[0]? = some (some (.ref p)) := fun p e => by
    cases hd : d.lent with
    | true =>
      rw [hd] at ha
      obtain ⟨p', m, ds, xs, e1, rfl, rfl, _⟩ := ha
      rw [e] at e1
      cases e1
      exact ⟨rfl, start_get rfl⟩
    | false =>
      rw [hd] at ha
      obtain ⟨e1, _⟩ := ha
      rw [e] at e1
      cases e1
  have fnn : ∀ {L' : Loc} {σ' : St} {S' : Ad} {H' : Hp}, Nxt d.lent (as.map some ++ List.replicate (d.nl - d.np) none) (L2.start N vs) S0 H L' σ' S' H' → Rep K S' L' σ' H' → FnN A0 S0 H S' H' := fun {L' σ' S' H'} n r =>
    ⟨n.sub, fun a h => (n.new a h).imp id fun z => z.imp id fun z => (ow a z).2.1, fun a o e na => n.keep a o e fun z => na (ow a z).2.1, n.there, r.trk⟩
  cases e : denS C G d.lent Wn d.body (as.map some ++ List.replicate (d.nl - d.np) none) with
  | next L' =>
    rw [e] at h
    unfold endDef at h
    intro S' σ' H' n r
    cases e2 : lentZ d.lent L' with
    | none => simp only [e2] at h
    | some z =>
      simp only [e2] at h
      exact h S' H' .non (fnn n r) (lentZ_ok n r hA e2) .non
  | ret v L' =>
    rw [e] at h
    unfold endDef at h
    intro S' σ' H' y n r rr
    cases e2 : lentZ d.lent L' with
    | none => simp only [e2] at h
    | some z =>
      simp only [e2] at h
      refine h S' H' y (fnn n r) (lentZ_ok n r hA e2) ?_
      cases v with
      | imm d => exact rr
      | own m =>
        obtain ⟨q, h1, h2, h3, h4⟩ := rr
        refine ⟨q, h1, h2, ?_, h4⟩
        rcases h3 with h3 | ⟨z1, z2⟩
        · exact h3
        · have := (ow q z2).1
          have z1 : d.lent = false := z1
          rw [this] at z1
          cases z1
  | err c L' =>
    rw [e] at h
    unfold endDef at h
    intro S' σ' H' n r
    cases e2 : lentZ d.lent L' with
    | none => simp only [e2] at h
    | some z =>
      simp only [e2] at h
      exact h S' H' (fnn n r) (lentZ_ok n r hA e2)
  | brk L' => rw [e] at h; exact h.elim
  | cont L' => rw [e] at h; exact h.elim
  | bad => rw [e] at h; exact h.elim
theorem def_ok {d : Def} {x qual : Str} {params : Arguments} {body : List Stmt} {scope : Scope} {f : Addr} {fd : FuncData} {N ps : List Str} (FD : FunD K x qual params body scope [] [] f fd) (S : FnScope N ps scope) (hp : ps.length = d.np) (hN : N.length = d.nl)
    (hb : ∀ (cdv : Value) (A : Around) (outer : List Env) (s : Shared) (H : Hp) (E : XK), Cn (cxOf (L2.CX P w) P w K mg base N qual scope f cdv A outer s H E) (fxOf K ca d.lent E) k →
      PSs (cxOf (L2.CX P w) P w K mg base N qual scope f cdv A outer s H E) body (RS (fxOf K ca d.lent E) (denS C G d.lent Wn d.body))) :
    FnOk P w K mg base (L2.CX P w) (k + 1) f fd ps (FnS K ca d.np (runDef C G Wn d) d.lent) := def_okE (E' := fun E => E) FD S hp hN (fun _ _ _ _ _ _ hr => cn_def hr S.nd) hb
theorem cn_def0 {N : List Str} {qual : Str} {scope : Scope} {f : Addr} {cd : Value} {A : Around} {outer : List Env} {s : Shared} {H : Hp} {E : XK} {ln : Bool} (hr : Room k (A.deeper (PyProof.Rows.envOfC qual scope s.heap.objs.size f cd))) (hN : N.Nodup) :
    Cn (cxOf CX0 P w K mg base N qual scope f cd A outer s H E) (fxOf K ca ln fun _ _ _ => False) k where
  K := rfl
  nd := hN
  u := by have := hr.un; show (A.deeper _).units + 65 < cLine; omega
  rm := hr
  calm := rfl
  tk := takes0
  po := passes_of rfl
  stk := rfl
  fr := rfl
/-- a def that lets nothing out -/
theorem def_ok0 {d : Def} {x qual : Str} {params : Arguments} {body : List Stmt} {scope : Scope} {f : Addr} {fd : FuncData} {N ps : List Str} (FD : FunD K x qual params body scope [] [] f fd) (S : FnScope N ps scope) (hp : ps.length = d.np) (hN : N.length = d.nl)
    (hb : ∀ (cdv : Value) (A : Around) (outer : List Env) (s : Shared) (H : Hp) (E : XK), Cn (cxOf CX0 P w K mg base N qual scope f cdv A outer s H E) (fxOf K ca d.lent fun _ _ _ => False) k →
      PSs (cxOf CX0 P w K mg base N qual scope f cdv A outer s H E) body (RS (fxOf K ca d.lent fun _ _ _ => False) (denS C G d.lent Wn d.body))) :
    FnOk P w K mg base CX0 (k + 1) f fd ps (fun vs H Q _ => FnS K ca d.np (runDef C G Wn d) d.lent vs H Q fun _ _ _ => False) := def_okE (E' := fun _ _ _ _ => False) FD S hp hN (fun _ _ _ _ _ _ hr => cn_def0 hr S.nd) hb
end
end Fw

/-! the text and its term: one rule a form -/
namespace Fw
open PySem PySem.Spec L2
abbrev JE (X : Cx) (F : Fx) (C : Calls) (G : Nat → Option D) (e : Expr) (t : E) : Prop := PE X e (RE F (den C G F.ln t).e)
abbrev JT (X : Cx) (F : Fx) (C : Calls) (G : Nat → Option D) (e : Expr) (t : E) : Prop := PT X e (RT F (den C G F.ln t).t)
abbrev JW (X : Cx) (F : Fx) (C : Calls) (G : Nat → Option D) (e : Expr) (t : E) : Prop := PW X e (RT F (den C G F.ln t).t)
abbrev JA (X : Cx) (F : Fx) (C : Calls) (G : Nat → Option D) (es : List Expr) (t : E) : Prop := PA X es (RA F (den C G F.ln t).a)
abbrev JI (X : Cx) (F : Fx) (C : Calls) (G : Nat → Option D) (tg e : Expr) (t : E) : Prop := PI X tg e (RI F (den C G F.ln t).i)
abbrev JO (X : Cx) (F : Fx) (C : Calls) (G : Nat → Option D) (e : Option Expr) (t : E) : Prop := PO X e (RO F (den C G F.ln t).o)
abbrev JK (X : Cx) (F : Fx) (C : Calls) (G : Nat → Option D) (es : List Expr) (t : E) : Prop := PTs X es (RT F (den C G F.ln t).k)
def visB (sc : Scope) (x : Str) : Bool := match sc.names.lookup x with
  | some .local => true
  | some .cell => true
  | some .free => true
  | _ => false
def locB (sc : Scope) (x : Str) : Bool := match sc.names.lookup x with
  | some .local => true
  | some .cell => true
  | _ => false
def oneB (x : Str) : Bool := !(x == ("__debug__" : Str)) && !(x == ("__classdict__" : Str))
theorem vis_of {sc : Scope} {x : Str} (h : visB sc x = true) : Vis sc x := by
  unfold visB at h
  split at h
  · exact .inl (by assumption)
  · exact .inr (.inl (by assumption))
  · exact .inr (.inr (by assumption))
  · cases h
theorem loc_of {sc : Scope} {x : Str} (h : locB sc x = true) : L2.Loc sc x := by
  unfold locB at h
  split at h
  · exact .inl (by assumption)
  · exact .inr (by assumption)
  · cases h
theorem one_of {x : Str} (h : oneB x = true) : (x == ("__debug__" : Str)) = false ∧ (x == ("__classdict__" : Str)) = false := by
  unfold oneB at h
  simpa using h
section
variable {X : Cx} {F : Fx} {C : Calls} {G : Nat → Option D} {pos p p1 p2 p3 : Pos} {k : Nat}
/-! ### expressions -/
/-- a name that can be read: its slot -/
structure Nm (X : Cx) (i : Nat) (x : Str) : Prop where
  ix : X.N[i]? = some x
  vis : visB X.env.scope x = true
  one : oneB x = true
theorem jv {i : Nat} {x : Str} (h : Nm X i x) : JE X F C G (.Name x pos) (.var i) := re_var h.ix (vis_of h.vis) (one_of h.one).1 (one_of h.one).2
theorem jkI {i : Int} {j : Nat} : JE X F C G (.Constant (.int i) j pos) (.cst (.int i)) := re_cst pe_int fun _ _ => .int i
theorem jkN {j : Nat} : JE X F C G (.Constant .none j pos) (.cst .none) := re_cst pe_non fun _ _ => .non
theorem jkB {b : Bool} {j : Nat} : JE X F C G (.Constant (.bool b) j pos) (.cst (.bool b)) := re_cst pe_bl fun _ _ => .bl b
theorem jkS {x : Str} {j : Nat} : JE X F C G (.Constant (.str x) j pos) (.cst (.str x)) := re_cst pe_str fun _ _ => .str x
theorem jb (op : BOp) {a b : Expr} {s t : E} (c : Ch X F) (ha : JE X F C G a s) (hb : JE X F C G b t) : JE X F C G (.BinOp a (bopOf op) b pos) (.bin op s t) := by
  obtain ⟨r, h1, h2⟩ := op_all (X := X) op
  exact re_bin h1 (c.K ▸ h2) ha hb
theorem jng {a : Expr} {s : E} (ha : JE X F C G a s) : JE X F C G (.UnaryOp .USub a pos) (.neg s) := re_neg ha
theorem jn {a : Expr} {s : E} (c : Ch X F) (ha : JE X F C G a s) : JE X F C G (.UnaryOp .Not a pos) (.not s) := re_not ha c.K
theorem jc (op : COp) {a b : Expr} {s t : E} (c : Ch X F) (ha : JE X F C G a s) (hb : JE X F C G b t) (hm : behindInMarks (copOf op) b = false) : JE X F C G (.Compare a [copOf op] [b] pos) (.cmp op s t) := pe_cmp (rc_all c.K c.u ha hb) hm
theorem jch (o1 o2 : COp) {a b e : Expr} {s t u : E} (c : Ch X F) (ha : JE X F C G a s) (hb : JE X F C G b t) (hc : JE X F C G e u) (hm : lastMarks [copOf o1, copOf o2] [b, e] = false) : JE X F C G (.Compare a [copOf o1, copOf o2] [b, e] pos) (.chn o1 o2 s t u) := re_chn c.K c.u ha hb hc hm
theorem jan {a b : Expr} {rest : List Expr} {s t : E} (ha : JE X F C G a s) (hb : JE X F C G (.BoolOp .And (b :: rest) pos) t) : JE X F C G (.BoolOp .And (a :: b :: rest) pos) (.and s t) := re_and ha hb
theorem jor {a b : Expr} {rest : List Expr} {s t : E} (ha : JE X F C G a s) (hb : JE X F C G (.BoolOp .Or (b :: rest) pos) t) : JE X F C G (.BoolOp .Or (a :: b :: rest) pos) (.or s t) := re_or ha hb
theorem j1 {op : BoolOp} {a : Expr} {s : E} (ha : JE X F C G a s) : JE X F C G (.BoolOp op [a] pos) s := pe_one ha
theorem jif {c a b : Expr} {s t u : E} (hc : JT X F C G c s) (ha : JE X F C G a t) (hb : JE X F C G b u) : JE X F C G (.IfExp c a b pos) (.ite s t u) := re_ite hc ha hb
theorem jtp {es : List Expr} {j : Nat} {t : E} (ha : JA X F C G es t) : JE X F C G (.Tuple es j pos) (.tup t) := re_tup ha
theorem jls {es : List Expr} {t : E} (ha : JA X F C G es t) : JE X F C G (.List es pos) (.lst t) := re_lst ha
theorem ja0 : JA X F C G [] .nil := ra_nil
theorem ja {e : Expr} {es : List Expr} {s t : E} (ha : JE X F C G e s) (hr : JA X F C G es t) (hs : starEach (e :: es) X.env = (false, eval e X.env) :: starEach es X.env) : JA X F C G (e :: es) (.cons s t) := ra_cons ha hr hs
theorem jit {a b : Expr} {s t : E} (c : Ch X F) (ha : JE X F C G a s) (hb : JE X F C G b t) (hs : ∀ o i, subscripted b false o i = operate [o, i] (getItem o i)) : JE X F C G (.Subscript a b pos) (.item s t) := re_item (by have := c.u; omega) c.K ha hb hs
theorem jo0 : JO X F C G none .nil := ro_non
/-- den's bound part, of an expression of any kind -/
def isX (C : Calls) (G : Nat → Option D) (ln : Bool) (t : E) : Prop := (den C G ln t).o = someO (den C G ln t).e ∧ (den C G ln t).i = seqI (den C G ln t).e ∧ (den C G ln t).k = (den C G ln t).t
theorem jo {e : Expr} {t : E} (he : JE X F C G e t) (hx : (den C G F.ln t).o = someO (den C G F.ln t).e) : JO X F C G (some e) t := by
  show PO X (some e) (RO F (den C G F.ln t).o)
  rw [hx]
  exact ro_some he
theorem jsl {a : Expr} {lo hi : Option Expr} {s t u : E} (c : Ch X F) (ha : JE X F C G a s) (hl : JO X F C G lo t) (hh : JO X F C G hi u) : JE X F C G (.Subscript a (.Slice lo hi none p2) pos) (.slc s t u) := re_slc c.K ha hl hh
theorem jrv {a : Expr} {s : E} {j : Nat} (c : Ch X F) (ha : JE X F C G a s) : JE X F C G (.Subscript a (.Slice none none (some (.UnaryOp .USub (.Constant (.int 1) j p1) p2)) p3) pos) (.rev s) := re_rev c.K ha
/-! ### calls -/
theorem jcl {j n : Nat} {x : Str} {e : Expr} {es : List Expr} {t : E} (c : Cb X F k) (hc : Cal X.prog X.w X.K X.mg X.base F.ca C k j x n false) (hg : Gl X x) (ha : JA X F C G (e :: es) t) (he : starEach (e :: es) X.env = (false, eval e X.env) :: starEach es X.env) (hpl : (backTo pos (starEach es X.env)).any (·.1) = false) :
    JE X F C G (.Call (.Name x p) (e :: es) [] pos) (.call j t) := by
  obtain ⟨a, fd, ps, h1, h2, h3, h4⟩ := hc.ex
  exact re_call c.tk (c.K.symm ▸ h1) hc.ar c.rm hg h2 h3 h4 ha hc.db he hpl
theorem jct {i j n : Nat} {x y : Str} {es : List Expr} {t : E} (c : Cb X F k) (hc : Cal X.prog X.w X.K X.mg X.base F.ca C k j x n true) (hg : Gl X x) (h : Nm X i y) (ha : JA X F C G es t) (hpl : (backTo pos (starEach es X.env)).any (·.1) = false) : JE X F C G (.Call (.Name x p) (.Name y p1 :: es) [] pos) (.callT j i t) := by
  obtain ⟨a, fd, ps, h1, h2, h3, h4⟩ := hc.ex
  exact re_callT c.tk (c.K.symm ▸ h1) hc.ar c.rm hg h2 h3 h4 (pe_var h.ix (vis_of h.vis) (one_of h.one).1 (one_of h.one).2) ha hc.db hpl
/-! ### tests -/
theorem jt {a : Expr} {s : E} (c : Ch X F) (ha : JE X F C G a s) (h : (den C G F.ln s).t = truF (den C G F.ln s).e) (he : ∀ whole, isTrue a X.env whole = (do let v ← whole; standAt a.pos; holding [v] (truthy v))) : JT X F C G a s := by
  show PT X a (RT F (den C G F.ln s).t)
  rw [h]
  exact rt_tru ha c.K he
theorem jtc (op : COp) {a b : Expr} {s t : E} (c : Ch X F) (ha : JE X F C G a s) (hb : JE X F C G b t) (hm : behindInMarks (copOf op) b = false) : JT X F C G (.Compare a [copOf op] [b] pos) (.cmp op s t) := rt_of (rc_all c.K c.u ha hb) hm
theorem jtch (o1 o2 : COp) {a b e : Expr} {s t u : E} (c : Ch X F) (ha : JE X F C G a s) (hb : JE X F C G b t) (hc : JE X F C G e u) (hm : lastMarks [copOf o1, copOf o2] [b, e] = false) : JT X F C G (.Compare a [copOf o1, copOf o2] [b, e] pos) (.chn o1 o2 s t u) := rt_chn c.K c.u ha hb hc hm
theorem jtn {a : Expr} {s : E} (ha : JT X F C G a s) : JT X F C G (.UnaryOp .Not a pos) (.not s) := rt_not ha
theorem jwA {a b : Expr} {rest : List Expr} {s t : E} (ha : JT X F C G a s) (hb : JW X F C G (.BoolOp .And (b :: rest) pos) t) : JW X F C G (.BoolOp .And (a :: b :: rest) pos) (.and s t) := rt_and ha hb
theorem jwO {a b : Expr} {rest : List Expr} {s t : E} (ha : JT X F C G a s) (hb : JW X F C G (.BoolOp .Or (b :: rest) pos) t) : JW X F C G (.BoolOp .Or (a :: b :: rest) pos) (.or s t) := rt_or ha hb
theorem jwA1 {a : Expr} {s : E} (ha : JT X F C G a s) : JW X F C G (.BoolOp .And [a] pos) s := rt_and1 ha
theorem jwO1 {a : Expr} {s : E} (ha : JT X F C G a s) : JW X F C G (.BoolOp .Or [a] pos) s := rt_or1 ha
theorem jtw {a : Expr} {s : E} (ha : JW X F C G a s) : JT X F C G a s := PW.pt ha
/-! ### built-in functions -/
def biN : BI → Str
  | .abs => "abs" | .int => "int" | .len => "len" | .tuple => "tuple" | .list => "list" | .sum => "sum" | .max2 => "max" | .min2 => "min" | .maxL => "max" | .minL => "min" | .all => "all" | .any => "any" | .sorted => "sorted"
theorem jbi (b : BI) {e : Expr} {es : List Expr} {t : E} (c : Cb X F k) (hg : Gl X (biN b)) (hm : X.mg (biN b) = none) (ha : JA X F C G (e :: es) t) (he : starEach (e :: es) X.env = (false, eval e X.env) :: starEach es X.env) (hpl : (backTo pos (starEach es X.env)).any (·.1) = false) :
    JE X F C G (.Call (.Name (biN b) p) (e :: es) [] pos) (.bi b t) := by
  have hK := c.K
  cases b with
  | abs => exact re_biB call_abs bs_abs hg hm (by decide +kernel) ha (by decide) (by decide) he hpl
  | int => exact re_biT call_int1 bs_int hg hm (by decide +kernel) ha (by decide) (by decide) he hpl
  | len => exact re_biB call_lenG (hK ▸ bs_len) hg hm (by decide +kernel) ha (by decide) (by decide) he hpl
  | tuple => exact re_biT call_tuple_of (hK ▸ bs_tuple) hg hm (by decide +kernel) ha (by decide) (by decide) he hpl
  | list => exact re_biT call_list_of (hK ▸ bs_list) hg hm (by decide +kernel) ha (by decide) (by decide) he hpl
  | sum => exact re_biB (cr_sum c.calm) (hK ▸ bs_sum) hg hm (by decide +kernel) ha (by decide) (by decide) he hpl
  | max2 => exact re_biB (call_max2 c.calm) bs_max2 hg hm (by decide +kernel) ha (by decide) (by decide) he hpl
  | min2 => exact re_biB (call_min2 c.calm) bs_min2 hg hm (by decide +kernel) ha (by decide) (by decide) he hpl
  | maxL => exact re_biB (cr_max c.calm) (hK ▸ bs_maxL) hg hm (by decide +kernel) ha (by decide) (by decide) he hpl
  | minL => exact re_biB (cr_min c.calm) (hK ▸ bs_minL) hg hm (by decide +kernel) ha (by decide) (by decide) he hpl
  | all => exact re_biB (cr_all c.calm) (hK ▸ bs_all) hg hm (by decide +kernel) ha (by decide) (by decide) he hpl
  | any => exact re_biB (cr_any c.calm) (hK ▸ bs_any) hg hm (by decide +kernel) ha (by decide) (by decide) he hpl
  | sorted => exact re_biB cr_sortedI (hK ▸ bs_sorted) hg hm (by decide +kernel) ha (by decide) (by decide) he hpl
end
end Fw

/-! the text and its term: iteration, statements -/
namespace Fw
open PySem PySem.Spec L2
abbrev JS (X : Cx) (F : Fx) (C : Calls) (G : Nat → Option D) (W : Nat) (st : Stmt) (s : S) : Prop := PS X st (RS F (denS C G F.ln W s))
abbrev JB (X : Cx) (F : Fx) (C : Calls) (G : Nat → Option D) (W : Nat) (sts : List Stmt) (s : S) : Prop := PSs X sts (RS F (denS C G F.ln W s))
section
variable {X : Cx} {F : Fx} {C : Calls} {G : Nat → Option D} {pos p p1 p2 p3 tpos : Pos} {k W : Nat} {tg : Expr}
/-- a name that can be stored -/
structure Ns (X : Cx) (i : Nat) (x : Str) : Prop where
  ix : X.N[i]? = some x
  loc : locB X.env.scope x = true
  fn : X.fn x = true ∨ X.env.scope.names.lookup x = some .local
theorem jg {i : Nat} {x : Str} (c : Ch X F) (h : Ns X i x) : PG X (.Name x pos) (gName i) := pg_name c.nd h.ix (loc_of h.loc) h.fn
def tlen : E → Nat
  | .cons _ r => tlen r + 1
  | _ => 0
def chainB : E → Bool
  | .nil => true
  | .cons _ r => chainB r
  | _ => false
theorem asg_len {ln : Bool} : ∀ {t : E} {ds : List Fw.D} {L L' : Loc}, chainB t = true → asgD ln t (.list ds) L = some L' → ds.length = tlen t
  | .nil, [], _, _, _, _ => rfl
  | .nil, _ :: _, _, _, _, h => by unfold asgD at h; cases h
  | .cons a r, [], _, _, _, h => by unfold asgD at h; cases h
  | .cons a r, d :: ds, L, L', c, h => by
    unfold asgD at h
    split at h
    · have := asg_len (t := r) c h
      show ds.length + 1 = tlen r + 1
      rw [this]
    · cases h
  | .var _, _, _, _, c, _ | .cst _, _, _, _, c, _ | .gcon _, _, _, _, c, _ | .bin .., _, _, _, c, _ | .neg _, _, _, _, c, _ | .not _, _, _, _, c, _ | .cmp .., _, _, _, c, _ | .chn .., _, _, _, c, _ | .and .., _, _, _, c, _ | .or .., _, _, _, c, _ | .ite .., _, _, _, c, _ | .tup _, _, _, _, c, _ | .lst _, _, _, _, c, _
  | .item .., _, _, _, c, _ | .slc .., _, _, _, c, _ | .rev _, _, _, _, c, _ | .call .., _, _, _, c, _ | .callT .., _, _, _, c, _ | .bi .., _, _, _, c, _ | .dct _, _, _, _, c, _ | .append .., _, _, _, c, _ | .extend .., _, _, _, c, _ | .pop0 _, _, _, _, c, _ | .pop1 .., _, _, _, c, _ | .comp .., _, _, _, c, _
  | .rng1 _, _, _, _, c, _ | .rng2 _, _, _, _, c, _ | .rng3 _, _, _, _, c, _ | .zip _, _, _, _, c, _ | .enu _, _, _, _, c, _ => by cases c
theorem tgT {K : PySem.W.Frag} {ln : Bool} {t : E} {gs : TGs} (h : TgsS K ln t gs) (c : chainB t = true) : TgS K ln (.tup t) (gTup K (tlen t) gs) := tg_tup h fun _ _ _ e => asg_len c e
theorem jgT {es : List Expr} {j n : Nat} {gs : TGs} (c : Cb X F k) (h : PGs X es gs) (hn : (assignEach es X.env).length = n) (hst : (assignEach es X.env).findIdx? (·.1) = none) : PG X (.Tuple es j pos) (gTup F.K n gs) := c.K.symm ▸ pg_tup c.calm h hn hst
theorem all0 {α : Type} {P : α → Prop} : ∀ c ∈ ([] : List α), P c := fun _ h => by cases h
theorem allc {α : Type} {P : α → Prop} {a : α} {l : List α} (h : P a) (t : ∀ c ∈ l, P c) : ∀ c ∈ a :: l, P c := fun c h' => (List.mem_cons.mp h').elim (fun z => z ▸ h) (t c)
/-! ### iteration -/
theorem jis {e : Expr} {t : E} (c : Ch X F) (he : JE X F C G e t) (hx : (den C G F.ln t).i = seqI (den C G F.ln t).e) : JI X F C G tg e t := by
  show PI X tg e (RI F (den C G F.ln t).i)
  rw [hx]
  exact ri_seq c.K he
theorem jr1 {a : Expr} {t : E} (hg : Gl X "range") (hm : X.mg "range" = none) (ha : JA X F C G [a] t) (hs : starEach [a] X.env = [(false, eval a X.env)]) : JI X F C G tg (.Call (.Name "range" p) [a] [] pos) (.rng1 t) := ri_rng1 hg hm ha hs
theorem jr2 {a b : Expr} {t : E} (hg : Gl X "range") (hm : X.mg "range" = none) (ha : JA X F C G [a, b] t) (hs : starEach [a, b] X.env = [(false, eval a X.env), (false, eval b X.env)]) (hs2 : starEach [b] X.env = [(false, eval b X.env)]) : JI X F C G tg (.Call (.Name "range" p) [a, b] [] pos) (.rng2 t) := ri_rng2 hg hm ha hs hs2
theorem jr3 {a b c : Expr} {t : E} (hg : Gl X "range") (hm : X.mg "range" = none) (ha : JA X F C G [a, b, c] t) (hs : starEach [a, b, c] X.env = (false, eval a X.env) :: starEach [b, c] X.env) (hpl : (backTo pos (starEach [b, c] X.env)).any (·.1) = false) : JI X F C G tg (.Call (.Name "range" p) [a, b, c] [] pos) (.rng3 t) := ri_rng3 hg hm ha hs hpl
theorem jzp {a b : Expr} {elts : List Expr} {kk : Nat} {t : E} (c : Ch X F) (hg : Gl X "zip") (hm : X.mg "zip" = none) (ha : JA X F C G [a, b] t) (hs : starEach [a, b] X.env = (false, eval a X.env) :: starEach [b] X.env) (hpl : (backTo pos (starEach [b] X.env)).any (·.1) = false) :
    JI X F C G (.Tuple elts kk tpos) (.Call (.Name "zip" p) [a, b] [] pos) (.zip t) := ri_zip c.K hg hm ha hs hpl
theorem jen {a : Expr} {elts : List Expr} {kk : Nat} {t : E} (c : Ch X F) (hg : Gl X "enumerate") (hm : X.mg "enumerate" = none) (ha : JA X F C G [a] t) (hs : starEach [a] X.env = [(false, eval a X.env)]) :
    JI X F C G (.Tuple elts kk tpos) (.Call (.Name "enumerate" p) [a] [] pos) (.enu t) := ri_enu c.K hg hm ha hs
/-! ### comprehensions -/
theorem jk0 : JK X F C G [] .nil := rts_nil
theorem jk {e : Expr} {t : E} (he : JT X F C G e t) (hx : (den C G F.ln t).k = (den C G F.ln t).t) : JK X F C G [e] t := by
  show PTs X [e] (RT F (den C G F.ln t).k)
  rw [hx]
  exact pts_one he
theorem jlc {elt iter : Expr} {ifs : List Expr} {scope : Scope} {ow : List (Str × Nat)} {own : List Nat} {g : TG} {tE it cd el : E} (c : Cb X F k) (hown : own = ow.map (·.2)) (ok : blkC X.N X.env.scope scope ow = true) (hsl : ∀ j ∈ slots tE, j ∈ own) (hgs : TgS F.K F.ln tE g) (hi : JI X F C G tg iter it)
    (hg : ∀ (s : Shared) (H : Hp) (A : Addr) (cl : List (Str × Addr)) (fp : List Addr), Cb (X.blk s H scope (compEnvC scope cl A X.env) fp) F.nox k → PG (X.blk s H scope (compEnvC scope cl A X.env) fp) tg g)
    (ht : ∀ (s : Shared) (H : Hp) (A : Addr) (cl : List (Str × Addr)) (fp : List Addr), Cb (X.blk s H scope (compEnvC scope cl A X.env) fp) F.nox k → JK (X.blk s H scope (compEnvC scope cl A X.env) fp) F.nox C G ifs cd)
    (he : ∀ (s : Shared) (H : Hp) (A : Addr) (cl : List (Str × Addr)) (fp : List Addr), Cb (X.blk s H scope (compEnvC scope cl A X.env) fp) F.nox k → JE (X.blk s H scope (compEnvC scope cl A X.env) fp) F.nox C G elt el) (hs : ∀ x, foldedSetIterable iter X.env x = pure x) :
    JE X F C G (.ListComp elt [⟨tg, iter, ifs, 0⟩] scope pos) (.comp own tE it cd el) :=
  re_comp hown c.calm c.nd hi (blkOk_by ok) hsl hgs (fun s H A cl fp => hg s H A cl fp c.blk) (fun s H A cl fp => ht s H A cl fp c.blk) (fun s H A cl fp => he s H A cl fp c.blk) hs
/-! ### statements -/
theorem s0 : JB X F C G W [] .pass := rss_nil
theorem s1 {st : Stmt} {s : S} (h : JS X F C G W st s) : JB X F C G W [st] s := rss_one h
theorem sc {st : Stmt} {rest : List Stmt} {s t : S} (h1 : JS X F C G W st s) (h2 : JB X F C G W rest t) : JB X F C G W (st :: rest) (.seq s t) := rss_cons h1 h2
theorem sps : JS X F C G W (.Pass pos) .pass := rs_pass
theorem sbk : JS X F C G W (.Break pos) .brk := rs_brk
theorem sct : JS X F C G W (.Continue pos) .cont := rs_cont
theorem srN : JS X F C G W (.Return none pos) .retN := rs_retN
theorem sr {e : Expr} {t : E} (he : JE X F C G e t) : JS X F C G W (.Return (some e) pos) (.ret t) := rs_ret he
theorem sx {e : Expr} {t : E} (he : JE X F C G e t) (hs : swapsWith e none pos.line X.env = pure false) : JS X F C G W (.Expr e pos) (.ex t) := rs_ex he hs
theorem si {c : Expr} {a b : List Stmt} {t : E} {s u : S} (hc : JT X F C G c t) (ha : JB X F C G W a s) (hb : JB X F C G W b u) : JS X F C G W (.If c a b pos) (.cond t s u) := rs_cond hc ha hb
theorem sw {c : Expr} {a : List Stmt} {t : E} {s : S} (n : Cn X F k) (hc : JT X F C G c t) (ha : JB X F C G W a s) : JS X F C G W (.While c a [] pos) (.loop t s) := rs_loop n.po hc ha
theorem sf {iter : Expr} {a : List Stmt} {tE it : E} {g : TG} {s : S} (n : Cn X F k) (hgs : TgS F.K F.ln tE g) (hg : PG X tg g) (hi : JI X F C G tg iter it) (ha : JB X F C G W a s) (hs : ∀ x, foldedSetIterable iter X.env x = pure x) : JS X F C G W (.For tg iter a [] pos) (.each tE it s) := rs_each n.po n.calm hi hg hgs ha hs
theorem sa {i : Nat} {x : Str} {e : Expr} {t : E} (c : Ch X F) (h : Ns X i x) (he : JE X F C G e t) (hs : swapsWith e (some (.Name x p)) pos.line X.env = pure false) : JS X F C G W (.Assign [.Name x p] e pos) (.asg i t) := rs_asg c.nd h.ix (loc_of h.loc) he hs h.fn
theorem sT {e : Expr} {tE t : E} {g : TG} (hgs : TgS F.K F.ln tE g) (hg : PG X tg g) (he : JE X F C G e t) (hs : swapsWithSole [tg] e pos.line X.env = pure false) (hw : swappedStores [tg] e X.env = pure none) (h1 : (assignEach [tg] X.env).map (·.2) = [assign tg X.env]) : JS X F C G W (.Assign [tg] e pos) (.asgT tE t) := rs_asgT he hg hgs hs hw h1
theorem sp2 {i j : Nat} {x y : Str} {a b : Expr} {t : E} {kt k2 : Nat} (c : Cb X F k) (hi : X.N[i]? = some x) (hj : X.N[j]? = some y) (hij : i ≠ j) (hx : X.env.scope.names.lookup x = some .local) (hy : X.env.scope.names.lookup y = some .local) (ha : JA X F C G [a, b] t)
    (hw : swappedStores [.Tuple [.Name x p1, .Name y p2] kt p3] (.Tuple [a, b] k2 tpos) X.env = pure (some [x, y])) (hs : swapsWithSole [.Tuple [.Name x p1, .Name y p2] kt p3] (.Tuple [a, b] k2 tpos) pos.line X.env = pure false) :
    JS X F C G W (.Assign [.Tuple [.Name x p1, .Name y p2] kt p3] (.Tuple [a, b] k2 tpos) pos) (.par [i, j] t) := rs_par2 c.calm c.nd hi hj hij hx hy ha hw hs
theorem sp3 {i j l : Nat} {x y z : Str} {a b d : Expr} {t : E} {kt k2 : Nat} {pz : Pos} (c : Cb X F k) (hi : X.N[i]? = some x) (hj : X.N[j]? = some y) (hl : X.N[l]? = some z) (hij : i ≠ j) (hil : i ≠ l) (hjl : j ≠ l) (hx : X.env.scope.names.lookup x = some .local) (hy : X.env.scope.names.lookup y = some .local) (hz : X.env.scope.names.lookup z = some .local) (ha : JA X F C G [a, b, d] t)
    (hw : swappedStores [.Tuple [.Name x p1, .Name y p2, .Name z pz] kt p3] (.Tuple [a, b, d] k2 tpos) X.env = pure (some [x, y, z])) (hs : swapsWithSole [.Tuple [.Name x p1, .Name y p2, .Name z pz] kt p3] (.Tuple [a, b, d] k2 tpos) pos.line X.env = pure false) :
    JS X F C G W (.Assign [.Tuple [.Name x p1, .Name y p2, .Name z pz] kt p3] (.Tuple [a, b, d] k2 tpos) pos) (.par [i, j, l] t) := rs_par3 c.calm c.nd hi hj hl hij hil hjl hx hy hz ha hw hs
theorem jgn0 : PGs X [] (gNames []) := pgs_nil
theorem jgn {e : Expr} {es : List Expr} {i : Nat} {is : List Nat} (h1 : PG X e (gName i)) (h2 : PGs X es (gNames is)) (hs : (assignEach (e :: es) X.env).map (·.2) = assign e X.env :: (assignEach es X.env).map (·.2)) : PGs X (e :: es) (gNames (i :: is)) := pgs_cons h1 h2 hs
theorem spT {is : List Nat} {ts es : List Expr} {t : E} {kt k2 : Nat} (c : Cb X F k) (hz : is.length ≤ 1000) (hg : PGs X ts (gNames is)) (hn : (assignEach ts X.env).length = is.length) (hst : (assignEach ts X.env).findIdx? (·.1) = none) (ha : JA X F C G es t)
    (hs : swapsWithSole [.Tuple ts kt p1] (.Tuple es k2 p2) pos.line X.env = pure false) (hw : swappedStores [.Tuple ts kt p1] (.Tuple es k2 p2) X.env = pure none) (h1 : (assignEach [.Tuple ts kt p1] X.env).map (·.2) = [assign (.Tuple ts kt p1) X.env]) :
    JS X F C G W (.Assign [.Tuple ts kt p1] (.Tuple es k2 p2) pos) (.par is t) := rs_parT hz ha (pg_tup c.calm hg hn hst) hs hw h1
theorem jgs0 : PGs X [] gNil := pgs_nil
theorem jgs {e : Expr} {es : List Expr} {t : TG} {u : TGs} (h1 : PG X e t) (h2 : PGs X es u) (hs : (assignEach (e :: es) X.env).map (·.2) = assign e X.env :: (assignEach es X.env).map (·.2)) : PGs X (e :: es) (gCons t u) := pgs_cons h1 h2 hs
theorem sput {i : Nat} {x : Str} {ke e : Expr} {t u : E} (c : Ch X F) (h : Nm X i x) (hk : JE X F C G ke t) (he : JE X F C G e u)
    (hs1 : swapsWithSole [.Subscript (.Name x p1) ke p2] e pos.line X.env = pure false) (hw : swappedStores [.Subscript (.Name x p1) ke p2] e X.env = pure none) (h1 : (assignEach [.Subscript (.Name x p1) ke p2] X.env).map (·.2) = [assign (.Subscript (.Name x p1) ke p2) X.env])
    (ha : ∀ v, assign (.Subscript (.Name x p1) ke p2) X.env v = (do
      let ov ← holding [v] (eval (.Name x p1) X.env)
      let iv ← holding [v, ov] (eval ke X.env)
      standAt p2
      holding [v, ov, iv] (setItem ov iv v)
      release [v, ov, iv] [])) : JS X F C G W (.Assign [.Subscript (.Name x p1) ke p2] e pos) (.put i t u) := rs_put (by have := c.u; omega) (pe_var h.ix (vis_of h.vis) (one_of h.one).1 (one_of h.one).2) hk he hs1 hw h1 ha
theorem sau (op : BOp) {i : Nat} {x : Str} {e : Expr} {t : E} (c : Ch X F) (h : Ns X i x) (he : JE X F C G e t) : JS X F C G W (.AugAssign (.Name x p) (bopOf op) e pos) (.aug op i t) := rs_aug c.K c.nd h.ix (loc_of h.loc) he h.fn
theorem sap {i : Nat} {x : Str} {e : Expr} {t : E} (c : Ch X F) (h : Nm X i x) (he : JE X F C G e t) (hst : starEach (e :: []) X.env = (false, eval e X.env) :: starEach [] X.env) (hl : (p1.endLine == pos.line) = true)
    (hfew : ((backTo pos (starEach [e] X.env)).all (fun x => !x.1) && (backToKw pos (keywordEach [] X.env)).all (fun x => x.1.isSome) && decide (([e] : List Expr).length + ([] : List Keyword).length + (if ([] : List Keyword).isEmpty then 0 else 1) < 30)) = true) :
    JE X F C G (.Call (.Attribute (.Name x p) "append" p1) [e] [] pos) (.append i t) := re_append c.K (pe_var h.ix (vis_of h.vis) (one_of h.one).1 (one_of h.one).2) he hst hl hfew
theorem srs {i : Nat} {x m : Str} {j : Nat} (n : Cn X F k) (q : Kls X.K X.mg F.ca i x) (hg : Gl X x) : JS X F C G W (.Raise (some (.Call (.Name x p) [.Constant (.str m) j p2] [] p1)) none pos) (.raise i) := by
  obtain ⟨A, bmB, B, n1, n2, h1, h2, h3, h4, h5, h6, h7⟩ := q.ex
  exact rs_raise n.calm n.tk h1 h2 h3 h4 (raises_own h6 h7) hg h5 q.db
theorem stry {x : Str} {cv : Value} {body suite : List Stmt} {b₀ : Stmt} {yes no : List Nat} {s t : S} (n : Cn X F k) (hc : Names X x cv) (hy : ∀ c ∈ yes, PySem.W.exmOne X.K (F.ca c) cv = some true) (hn : ∀ c ∈ no, PySem.W.exmOne X.K (F.ca c) cv = some false)
    (hb : ∀ (W' : WX) (pn : List (Addr × Obj)) (xe : Value → Shared → Prop), Cn (X.tr pn xe) { F with W := W' } k → JB (X.tr pn xe) { F with W := W' } C G W body s)
    (hsu : ∀ (a : Addr) (oe : Obj) (pn : List (Addr × Obj)), Ch (X.suite a ((a, oe) :: pn)) F → JB (X.suite a ((a, oe) :: pn)) F C G W (b₀ :: suite) t) :
    JS X F C G W (.Try body [.ExceptHandler (some (.Name x p)) none (b₀ :: suite) p1] [] [] pos) (.attempt s yes no t) :=
  rs_try n.stk n.fr hc n.tk hy hn (fun W' pn xe tk po => hb W' pn xe (n.tr tk po)) fun a oe cls d pn _ _ => hsu a oe pn n.toCb.toCh.suite
theorem sac {i : Nat} {y : Str} {py spos : Pos} {elt iter : Expr} {ifs : List Expr} {scope : Scope} {ow : List (Str × Nat)} {own : List Nat} {g : TG} {tE it cd el : E} (c : Cb X F k) (hy : X.N[i]? = some y) (hyl : X.env.scope.names.lookup y = some .local)
    (hsw : swapsWith (.ListComp elt [⟨tg, iter, ifs, 0⟩] scope pos) (some (.Name y py)) spos.line X.env = pure true)
    (hown : own = ow.map (·.2)) (ok : blkC X.N X.env.scope scope ow = true) (hsl : ∀ j ∈ slots tE, j ∈ own) (hgs : TgS F.K F.ln tE g) (hi : JI X F C G tg iter it)
    (hg : ∀ (s : Shared) (H : Hp) (A : Addr) (cl : List (Str × Addr)) (fp : List Addr), Cb (X.blk s H scope (compEnvC scope cl A X.env) fp) F.nox k → PG (X.blk s H scope (compEnvC scope cl A X.env) fp) tg g)
    (ht : ∀ (s : Shared) (H : Hp) (A : Addr) (cl : List (Str × Addr)) (fp : List Addr), Cb (X.blk s H scope (compEnvC scope cl A X.env) fp) F.nox k → JK (X.blk s H scope (compEnvC scope cl A X.env) fp) F.nox C G ifs cd)
    (he : ∀ (s : Shared) (H : Hp) (A : Addr) (cl : List (Str × Addr)) (fp : List Addr), Cb (X.blk s H scope (compEnvC scope cl A X.env) fp) F.nox k → JE (X.blk s H scope (compEnvC scope cl A X.env) fp) F.nox C G elt el) (hs : ∀ x, foldedSetIterable iter X.env x = pure x) :
    JS X F C G W (.Assign [.Name y py] (.ListComp elt [⟨tg, iter, ifs, 0⟩] scope pos) spos) (.asg i (.comp own tE it cd el)) :=
  rs_asgC hown c.calm c.nd hy hyl hsw hi (blkOk_by ok) hsl hgs (fun s H A cl fp => hg s H A cl fp c.blk) (fun s H A cl fp => ht s H A cl fp c.blk) (fun s H A cl fp => he s H A cl fp c.blk) hs
/-! ### displays of dicts: pairs -/
structure JP (X : Cx) (F : Fx) (C : Calls) (G : Nat → Option D) (pos : Pos) (keys : List (Option Expr)) (values : List Expr) (t : E) : Prop where
  ex : ∃ trs, PPs X pos keys values trs ∧ PairsOf F (den C G F.ln t).a trs
theorem jp0 : JP X F C G pos [] [] .nil := ⟨[], pps_nil, .nil⟩
theorem jp {a b : Expr} {ks : List (Option Expr)} {vs : List Expr} {s t u : E} (ha : JE X F C G a s) (hb : JE X F C G b t) (hr : JP X F C G pos ks vs u) : JP X F C G pos (some a :: ks) (b :: vs) (.cons s (.cons t u)) := by
  obtain ⟨trs, h1, h2⟩ := hr.ex
  exact ⟨_, pps_cons ha hb h1, .cons h2⟩
theorem jd {ks : List (Option Expr)} {vs : List Expr} {t : E} (h : JP X F C G pos ks vs t) (hall : ks.all (·.isSome) = true) (hl : ks.length = vs.length) (h0 : ks ≠ []) (h15 : ks.length ≤ 15) : JE X F C G (.Dict ks vs pos) (.dct t) := by
  obtain ⟨trs, h1, h2⟩ := h.ex
  exact re_dct h1 h2 hall hl h0 h15
end
end Fw

/-! all defs at once; the law's end -/
namespace Fw
open PySem PySem.Spec L2
section
variable {P : Program} {w : World} {K : PySem.W.Frag} {mg : Str → Option Value} {base : Heap} {ca : Nat → Value} {C : Calls} {G : Nat → Option D} {Wn k : Nat}
theorem run_len {d : Def} {as : List LVal} (h : runDef C G Wn d as ≠ .bad) : as.length = d.np := by
  unfold runDef at h
  split at h
  · assumption
  · exact absurd rfl h
theorem cal_zero {j n : Nat} {x : Str} {lent : Bool} {params : Arguments} {body : List Stmt} {scope : Scope} {f : Addr} {fd : FuncData} {ps : List Str} (FD : FunD K x x params body scope [] [] f fd) (hm : mg x = some (.ref f)) (hb : Binds K fd ps []) (hn : ps.length = n) (db : (x == ("__debug__" : Str)) = false) :
    Cal P w K mg base ca (fun _ _ => .bad) k j x n lent :=
  ⟨⟨f, fd, ps, ⟨fun vs H Q E h => by rw [hn]; exact h.len, fun A outer s H args us vs Q E _ _ _ _ h => by
    obtain ⟨S, A', as, _, _, _, z⟩ := h
    exact z.elim⟩, hm, FD.kp, hb⟩, fun as h => absurd rfl h, db⟩
theorem cal_succ {j n : Nat} {x : Str} {lent : Bool} {params : Arguments} {body : List Stmt} {scope : Scope} {f : Addr} {fd : FuncData} {ps : List Str} {d : Def} {C' : Calls} (FD : FunD K x x params body scope [] [] f fd) (hm : mg x = some (.ref f)) (hb : Binds K fd ps []) (db : (x == ("__debug__" : Str)) = false)
    (ok : FnOk P w K mg base (L2.CX P w) k f fd ps (FnS K ca n (runDef C G Wn d) lent)) (he : C' j = runDef C G Wn d) (hn : d.np = n) : Cal P w K mg base ca C' k j x n lent :=
  ⟨⟨f, fd, ps, by rw [he]; exact ok, hm, FD.kp, hb⟩, fun as h => by rw [he] at h; rw [← hn]; exact run_len h, db⟩
/-- an own class of errors over ValueError, by the head's facts -/
theorem kls_ve {c : Nat} {x : Str} {C : Addr} (e : PySem.W.excIn K C He.veBase "ValueError.__new__" = true ∧ PySem.W.keepIn K (.ref C) = true ∧ PySem.W.subIn K (.ref C) (.type "BaseException") = some true ∧ PySem.W.typeIn K (.ref C) = some (.type "type")) (hm : mg x = some (.ref C)) (hc : ca c = .ref C) (db : (x == ("__debug__" : Str)) = false) : Kls K mg ca c x :=
  ⟨⟨C, He.veBase, "ValueError", "ValueError.__new__", "ValueError.__init__", F.excBase_ValueError, e.1, hm, e.2.1, hc, e.2.2.1, e.2.2.2⟩, db⟩
/-- the script, its answer -/
theorem law_sp {n : Nat} {C : Calls} {j : Nat} (h : ∀ ns : List Int, ns.length ≤ n → ∃ z, C j [.imm (.list (ns.map .int))] = .ok (.imm (.bool true)) z) :
    ∀ (H : Hp) (a : Addr) (ns : List Int), ns.length ≤ n → Only H → SqL K H a (ns.map V.int) → (fun vs H Q (_ : XK) => FnS K ca 1 (C j) false vs H Q fun _ _ _ => False : Sp) [.ref a] H (fun v _ => v = .bl true) fun _ _ _ => False := by
  intro H a ns hl hO hS
  obtain ⟨z, e⟩ := h ns hl
  have fin : ∀ S : Ad, KpL K S H a (ns.map V.int) → (∀ b, S b → H b ≠ none) → FnS K ca 1 (C j) false [.ref a] H (fun v _ => v = .bl true) (fun _ _ _ => False) := fun S hk ht =>
    ⟨S, none, [.imm (.list (ns.map .int))], ⟨rfl, [.list (ns.map .int)], rfl, .cons (.lst hk (RpA.of_ints ns)) .nil⟩, rfl, ht, by
      rw [e]
      intro S' H' x _ _ rr
      cases rr
      rfl⟩
  rcases hS with hS | hS
  · refine fin (fun b => b = a) (.inl ⟨rfl, hS⟩) fun b hb => ?_
    subst hb
    rcases hS with q | ⟨o, q⟩ <;> rw [q] <;> simp
  · exact fin (fun _ => False) (.inr (.inr hS)) fun b hb => hb.elim
end
end Fw

/-! the drawing of numbers from the script -/
namespace Fw
open PySem
abbrev kS (x : String) : Fw.D := .str (PySem.Str.ofString x)
def takeD : Def := ⟨2, 4, true, (.seq (.cond (.and (.cmp .eq (.item (.var 0) (.cst (.str (PySem.Str.ofString "left")))) (.cst (.int 0))) (.cmp .lt (.item (.var 0) (.cst (.str (PySem.Str.ofString "at")))) (.bi .len (.cons (.item (.var 0) (.cst (.str (PySem.Str.ofString "cells")))) .nil)))) (.seq (.put 0 (.cst (.str (PySem.Str.ofString "left"))) (.item (.item (.var 0) (.cst (.str (PySem.Str.ofString "cells")))) (.item (.var 0) (.cst (.str (PySem.Str.ofString "at"))))))
  (.put 0 (.cst (.str (PySem.Str.ofString "at"))) (.bin .add (.item (.var 0) (.cst (.str (PySem.Str.ofString "at")))) (.cst (.int 1))))) .pass)
  (.seq (.cond (.cmp .gt (.item (.var 0) (.cst (.str (PySem.Str.ofString "left")))) (.cst (.int 0))) (.seq (.asg 2 (.bin .mod (.bi .int (.cons (.item (.var 0) (.cst (.str (PySem.Str.ofString "left")))) .nil)) (.var 1)))
  (.seq (.put 0 (.cst (.str (PySem.Str.ofString "left"))) (.bin .fdiv (.item (.var 0) (.cst (.str (PySem.Str.ofString "left")))) (.var 1)))
  (.ret (.var 2)))) .pass)
  (.seq (.put 0 (.cst (.str (PySem.Str.ofString "salt"))) (.bin .add (.item (.var 0) (.cst (.str (PySem.Str.ofString "salt")))) (.cst (.int 1))))
  (.seq (.asg 3 (.bin .mod (.bi .int (.cons (.bin .add (.bin .mul (.item (.var 0) (.cst (.str (PySem.Str.ofString "seed")))) (.cst (.int 48271))) (.bin .mul (.item (.var 0) (.cst (.str (PySem.Str.ofString "salt")))) (.cst (.int 69621)))) .nil)) (.cst (.int 2147483647))))
  (.seq (.asg 3 (.bin .mod (.bi .int (.cons (.bin .add (.bin .add (.bin .mul (.var 3) (.var 3)) (.bin .mul (.item (.var 0) (.cst (.str (PySem.Str.ofString "salt")))) (.cst (.int 40692)))) (.cst (.int 12345))) .nil)) (.cst (.int 2147483399))))
  (.ret (.bin .mod (.bi .int (.cons (.var 3) .nil)) (.var 1))))))))⟩
def tapeD : Def := ⟨1, 4, false, (.seq (.asg 1 (.comp [3] (.var 3) (.var 0) .nil (.bi .abs (.cons (.bi .int (.cons (.var 3) .nil)) .nil))))
  (.seq (.asg 2 (.cst (.int 7)))
  (.seq (.each (.var 3) (.var 1) (.asg 2 (.bin .mod (.bi .int (.cons (.bin .add (.bin .mul (.var 2) (.cst (.int 31))) (.var 3)) .nil)) (.cst (.int 2147483647)))))
  (.ret (.dct (.cons (.cst (.str (PySem.Str.ofString "cells"))) (.cons (.var 1) (.cons (.cst (.str (PySem.Str.ofString "at"))) (.cons (.cst (.int 0)) (.cons (.cst (.str (PySem.Str.ofString "left"))) (.cons (.cst (.int 0)) (.cons (.cst (.str (PySem.Str.ofString "seed"))) (.cons (.var 2) (.cons (.cst (.str (PySem.Str.ofString "salt"))) (.cons (.cst (.int 0)) .nil)))))))))))))))⟩
def tpL (cs : Fw.D) (a l s z : Int) : List (Fw.D × Fw.D) := [(kS "cells", cs), (kS "at", .int a), (kS "left", .int l), (kS "seed", .int s), (kS "salt", .int z)]
section
variable {cs v : Fw.D} {a l s z i : Int} {C : Calls} {G : Nat → Option D} {W : Nat}
theorem g_cells : itemD (.dict (tpL cs a l s z)) (.str (PySem.Str.ofString "cells")) = some cs := by with_unfolding_all rfl
theorem g_at : itemD (.dict (tpL cs a l s z)) (.str (PySem.Str.ofString "at")) = some (.int a) := by with_unfolding_all rfl
theorem g_left : itemD (.dict (tpL cs a l s z)) (.str (PySem.Str.ofString "left")) = some (.int l) := by with_unfolding_all rfl
theorem g_seed : itemD (.dict (tpL cs a l s z)) (.str (PySem.Str.ofString "seed")) = some (.int s) := by with_unfolding_all rfl
theorem g_salt : itemD (.dict (tpL cs a l s z)) (.str (PySem.Str.ofString "salt")) = some (.int z) := by with_unfolding_all rfl
theorem p_at : kSet (.dic (tpL cs a l s z)) (.str (PySem.Str.ofString "at")) (.int i) = some (.dic (tpL cs i l s z)) := by with_unfolding_all rfl
theorem p_left : kSet (.dic (tpL cs a l s z)) (.str (PySem.Str.ofString "left")) (.int i) = some (.dic (tpL cs a i s z)) := by with_unfolding_all rfl
theorem p_salt : kSet (.dic (tpL cs a l s z)) (.str (PySem.Str.ofString "salt")) (.int i) = some (.dic (tpL cs a l s i)) := by with_unfolding_all rfl
theorem g_left' {l' : Int} (h : MO) (e : h = .dic (tpL cs a l s z)) : h.data = .dict (tpL cs a l s z) := by rw [e]; rfl
theorem len_cs {ds : List Fw.D} : opBI .len [.list ds] = some (.imm (.int ds.length)) := rfl
/-- a draw from what is left of a cell -/
theorem take_left {m : Int} (hl : 0 < l) (hm : 0 < m) (hm2 : m.natAbs.log2 < 9000) :
    runDef C G W takeD [.own (.dic (tpL cs a l s z)), .imm (.int m)] = .ok (.imm (.int (l.fmod m))) (some (.own (.dic (tpL cs a (l.fdiv m) s z)))) := by
  have e1 : (l == 0) = false := by simp; omega
  have e2 : ¬ m = 0 := by omega
  have e3 : okDiv m = true := by simp [okDiv, hm]; exact .inl hm2
  simp [runDef, takeD, denS, den, seqS, condS, andF, andT, truF, cmpT, cmpF, twoF, oneF, itemF, varF, cstF, getL, Res.bind, Res.toS, rd, LVal.data, MO.data, g_left, g_at, g_cells, opC, eqD, ofOpt, e1, ltD, hl, putS, putK1, putK2, keepD, p_left, asgS, fixP, asgV, setV, binF, opB, opMod, opFdiv, e2, e3, biF, consA, nilA, rdAll, opBI, biInt, retS, endDef, lentZ]
theorem log2_le64 {n : Nat} (h : n < 2 ^ 64) : n.log2 < 64 := by
  by_cases c : n = 0
  · subst c; decide
  · exact (Nat.log2_lt c).mpr h
theorem wide64 {i j : Int} (hi : i.natAbs < 2 ^ 64) (hj : j.natAbs < 2 ^ 64) : wideMul i j = true := by
  have h1 := log2_le64 hi
  have h2 := log2_le64 hj
  unfold wideMul
  rw [Nat.blt_eq]
  omega
theorem item_ix {ds : List Fw.D} {x : Fw.D} (ha : 0 ≤ a) (hl : a < ds.length) (hg : ds[a.toNat]? = some x) : itemD (.list ds) (.int a) = some x := by
  show ((ixD ds.length a).bind fun j => ds[j]?) = some x
  rw [show ixD ds.length a = some a.toNat from by unfold ixD; rw [if_pos ha, if_pos hl]]
  exact hg
theorem take_cell {m c : Int} {ds : List Fw.D} (hc : 0 < c) (ha : 0 ≤ a) (hl : a < ds.length) (hg : ds[a.toNat]? = some (.int c)) (hm : 0 < m) (hm2 : m.natAbs.log2 < 9000) :
    runDef C G W takeD [.own (.dic (tpL (.list ds) a 0 s z)), .imm (.int m)] = .ok (.imm (.int (c.fmod m))) (some (.own (.dic (tpL (.list ds) (a + 1) (c.fdiv m) s z)))) := by
  have e2 : ¬ m = 0 := by omega
  have e3 : okDiv m = true := by simp [okDiv, hm]; exact .inl hm2
  have e4 : itemD (.list ds) (.int a) = some (.int c) := item_ix ha hl hg
  simp [runDef, takeD, denS, den, seqS, condS, andF, andT, truF, cmpT, cmpF, twoF, oneF, itemF, varF, cstF, getL, Res.bind, Res.toS, rd, LVal.data, MO.data, g_left, g_at, g_cells, opC, eqD, ofOpt, ltD, hc, hl, e4, putS, putK1, putK2, keepD, p_left, p_at, asgS, fixP, asgV, setV, binF, opB, opMod, opFdiv, opAdd, e2, e3, biF, consA, nilA, rdAll, opBI, biInt, biLen, retS, endDef, lentZ]
/-- the numbers drawn where no cell is left -/
def saltX (s z : Int) : Int := (s * 48271 + z * 69621).fmod 2147483647
def saltY (s z : Int) : Int := (saltX s z * saltX s z + z * 40692 + 12345).fmod 2147483399
theorem fmod_range {i j : Int} (h : 0 < j) : 0 ≤ i.fmod j ∧ i.fmod j < j := ⟨Int.fmod_nonneg_of_pos i h, Int.fmod_lt_of_pos i h⟩
theorem salt_wide (hs : 0 ≤ s) (hs2 : s < 2147483647) (hz : 0 ≤ z) (hz2 : z < 1000000000) : wideMul s 48271 = true ∧ wideMul (z + 1) 69621 = true ∧ wideMul (z + 1) 40692 = true ∧ wideMul (saltX s (z + 1)) (saltX s (z + 1)) = true := by
  obtain ⟨h1, h2⟩ := fmod_range (i := s * 48271 + (z + 1) * 69621) (j := 2147483647) (by decide)
  refine ⟨wide64 (by omega) (by decide), wide64 (by omega) (by decide), wide64 (by omega) (by decide), wide64 ?_ ?_⟩ <;> (unfold saltX; omega)
theorem take_salt {m : Int} {ds : List Fw.D} (ha : ds.length ≤ a) (hs : 0 ≤ s) (hs2 : s < 2147483647) (hz : 0 ≤ z) (hz2 : z < 1000000000) (hm : 0 < m) :
    runDef C G W takeD [.own (.dic (tpL (.list ds) a 0 s z)), .imm (.int m)] = .ok (.imm (.int ((saltY s (z + 1)).fmod m))) (some (.own (.dic (tpL (.list ds) a 0 s (z + 1))))) := by
  have e2 : ¬ m = 0 := by omega
  have e4 : ¬ a < ds.length := by omega
  obtain ⟨w1, w2, w3, w4⟩ := salt_wide hs hs2 hz hz2
  unfold saltX at w4
  simp [runDef, takeD, denS, den, seqS, condS, andF, andT, truF, cmpT, cmpF, twoF, oneF, itemF, varF, cstF, getL, Res.bind, Res.toS, rd, LVal.data, MO.data, g_left, g_at, g_cells, g_seed, g_salt, p_salt, opC, eqD, ofOpt, ltD, e4, putS, putK1, putK2, keepD, p_left, p_at, asgS, fixP, asgV, setV, binF, opB, opMod, opMul, opFdiv, opAdd, e2, biF, consA, nilA, rdAll, opBI, biInt, biLen, retS, endDef, lentZ, w1, w2, w3, w4, saltY, saltX]
theorem take_zero {m : Int} {ds : List Fw.D} (ha : 0 ≤ a) (hl : a < ds.length) (hg : ds[a.toNat]? = some (.int 0)) (hs : 0 ≤ s) (hs2 : s < 2147483647) (hz : 0 ≤ z) (hz2 : z < 1000000000) (hm : 0 < m) :
    runDef C G W takeD [.own (.dic (tpL (.list ds) a 0 s z)), .imm (.int m)] = .ok (.imm (.int ((saltY s (z + 1)).fmod m))) (some (.own (.dic (tpL (.list ds) (a + 1) 0 s (z + 1))))) := by
  have e2 : ¬ m = 0 := by omega
  have e4 : itemD (.list ds) (.int a) = some (.int 0) := item_ix ha hl hg
  obtain ⟨w1, w2, w3, w4⟩ := salt_wide hs hs2 hz hz2
  unfold saltX at w4
  simp [runDef, takeD, denS, den, seqS, condS, andF, andT, truF, cmpT, cmpF, twoF, oneF, itemF, varF, cstF, getL, Res.bind, Res.toS, rd, LVal.data, MO.data, g_left, g_at, g_cells, g_seed, g_salt, p_salt, opC, eqD, ofOpt, ltD, hl, e4, putS, putK1, putK2, keepD, p_left, p_at, asgS, fixP, asgV, setV, binF, opB, opMod, opMul, opFdiv, opAdd, e2, biF, consA, nilA, rdAll, opBI, biInt, biLen, retS, endDef, lentZ, w1, w2, w3, w4, saltY, saltX]
/-- a tape behind at most n draws -/
def Tp (n : Nat) (v : LVal) : Prop := ∃ (cs : List Int) (a l s z : Int), v = .own (.dic (tpL (.list (cs.map .int)) a l s z)) ∧ (∀ c ∈ cs, 0 ≤ c) ∧ 0 ≤ a ∧ 0 ≤ l ∧ 0 ≤ s ∧ s < 2147483647 ∧ 0 ≤ z ∧ z ≤ n
theorem take_ok {n : Nat} {v : LVal} {m : Int} (t : Tp n v) (hn : n < 1000000000) (hm : 0 < m) (hm2 : m.natAbs.log2 < 9000) : ∃ r v', runDef C G W takeD [v, .imm (.int m)] = .ok (.imm (.int r)) (some v') ∧ Tp (n + 1) v' ∧ 0 ≤ r ∧ r < m := by
  obtain ⟨cs, a, l, s, z, rfl, h1, h2, h3, h4, h5, h6, h7⟩ := t
  have fd : ∀ i : Int, 0 ≤ i → 0 ≤ i.fdiv m := fun i hi => Int.fdiv_nonneg hi (by omega)
  by_cases c : 0 < l
  · exact ⟨_, _, take_left c hm hm2, ⟨cs, a, _, s, z, rfl, h1, h2, fd l h3, h4, h5, h6, by omega⟩, fmod_range hm⟩
  · have e : l = 0 := by omega
    subst e
    by_cases c2 : a < cs.length
    · have hi : a.toNat < cs.length := by omega
      have hg : (cs.map PyData.int)[a.toNat]? = some (PyData.int cs[a.toNat]) := by simp [hi]
      have h0 : 0 ≤ cs[a.toNat] := h1 _ (List.getElem_mem hi)
      by_cases c3 : 0 < cs[a.toNat]
      · exact ⟨_, _, take_cell c3 h2 (by simpa using c2) hg hm hm2, ⟨cs, a + 1, _, s, z, rfl, h1, by omega, fd _ h0, h4, h5, h6, by omega⟩, fmod_range hm⟩
      · have e3 : cs[a.toNat] = 0 := by omega
        rw [e3] at hg
        exact ⟨_, _, take_zero h2 (by simpa using c2) hg h4 h5 h6 (by omega) hm, ⟨cs, a + 1, 0, s, z + 1, rfl, h1, by omega, by omega, h4, h5, by omega, by omega⟩, fmod_range hm⟩
    · exact ⟨_, _, take_salt (by simp; omega) h4 h5 h6 (by omega) hm, ⟨cs, a, 0, s, z + 1, rfl, h1, h2, by omega, h4, h5, by omega, by omega⟩, fmod_range hm⟩
def absI (i : Int) : Int := if i < 0 then -i else i
theorem absI_nn (i : Int) : 0 ≤ absI i := by unfold absI; split <;> omega
theorem comp_step {own : List Nat} {asg : Fw.D → Loc → Option Loc} {cond : Loc → Res Bool} {elt : Loc → Res Fw.D} {d y : Fw.D} {ds ys : List Fw.D} {L L1 L2 L3 L4 : Loc} (h1 : asg d (wipeL L own) = some L1) (h2 : cond L1 = .ok true L2) (h3 : elt L2 = .ok y L3) (h4 : compLoop own asg cond elt ds L3 = .ok ys L4) :
    compLoop own asg cond elt (d :: ds) L = .ok (y :: ys) L4 := by
  unfold compLoop
  simp only [h1, h2, h3, h4, Res.bind]
theorem comp_skip {own : List Nat} {asg : Fw.D → Loc → Option Loc} {cond : Loc → Res Bool} {elt : Loc → Res Fw.D} {d : Fw.D} {ds ys : List Fw.D} {L L1 L2 L4 : Loc} (h1 : asg d (wipeL L own) = some L1) (h2 : cond L1 = .ok false L2) (h4 : compLoop own asg cond elt ds L2 = .ok ys L4) :
    compLoop own asg cond elt (d :: ds) L = .ok ys L4 := by
  unfold compLoop
  simp only [h1, h2, h4, Res.bind]
theorem each_step {asg : Fw.D → Loc → Option Loc} {b : FS} {d : Fw.D} {ds : List Fw.D} {L L1 L2 : Loc} {r : SRes} (h1 : asg d L = some L1) (h2 : b L1 = .next L2) (h3 : eachL asg b ds L2 = r) : eachL asg b (d :: ds) L = r := by
  unfold eachL
  simp only [h1, h2, h3]
theorem seq_next {a b : FS} {L L1 : Loc} {r : SRes} (h1 : a L = .next L1) (h2 : b L1 = r) : seqS a b L = r := by
  unfold seqS
  simp only [h1, h2]
theorem loop_step {c : FT} {b : FS} {n : Nat} {L L1 L2 : Loc} {r : SRes} (h1 : c L = .ok true L1) (h2 : b L1 = .next L2) (h3 : loopS c b n L2 = r) : loopS c b (n + 1) L = r := by
  unfold loopS
  simp only [h1, h2, h3, Res.toS]
theorem loop_end {c : FT} {b : FS} {n : Nat} {L L1 : Loc} (h1 : c L = .ok false L1) : loopS c b (n + 1) L = .next L1 := by
  unfold loopS
  simp only [h1, Res.toS]
theorem tape_comp {A B D' : Option LVal} : ∀ (ns : List Int) (v : Option LVal), ∃ v', compLoop [3] (asgD false (.var 3)) (fun K => noErr ((den C G false .nil).k K)) (fun K => noErr (((den C G false (.bi .abs (.cons (.bi .int (.cons (.var 3) .nil)) .nil))).e K).bind fun p K1 => keepD K1 p)) (ns.map PyData.int) [A, B, D', v] = .ok ((ns.map absI).map PyData.int) [A, B, D', v']
  | [], v => ⟨v, rfl⟩
  | n :: ns, v => by
    obtain ⟨v', ih⟩ := tape_comp ns (some (.imm (.int n)))
    exact ⟨v', comp_step rfl rfl rfl ih⟩
theorem tape_seed {A B : Option LVal} : ∀ (cs : List Int) (s : Int) (v : Option LVal), 0 ≤ s → s < 2147483647 → ∃ s' v', eachL (asgD false (.var 3)) (denS C G false W (.asg 2 (.bin .mod (.bi .int (.cons (.bin .add (.bin .mul (.var 2) (.cst (.int 31))) (.var 3)) .nil)) (.cst (.int 2147483647))))) (cs.map PyData.int) [A, B, some (.imm (.int s)), v] = .next [A, B, some (.imm (.int s')), v'] ∧ 0 ≤ s' ∧ s' < 2147483647
  | [], s, v, h1, h2 => ⟨s, v, rfl, h1, h2⟩
  | c :: cs, s, v, h1, h2 => by
    obtain ⟨q1, q2⟩ := fmod_range (i := s * 31 + c) (j := 2147483647) (by decide)
    obtain ⟨s', v', ih, r⟩ := tape_seed cs ((s * 31 + c).fmod 2147483647) (some (.imm (.int c))) q1 q2
    refine ⟨s', v', ?_, r⟩
    have w1 : wideMul s 31 = true := wide64 (by omega) (by decide)
    refine each_step (L1 := [A, B, some (.imm (.int s)), some (.imm (.int c))]) rfl ?_ ih
    simp [denS, asgS, den, Den.of, binF, twoF, biF, consA, nilA, varF, cstF, getL, Res.bind, Res.toS, rdAll, rd, ofOpt, opBI, biInt, opB, opMul, opAdd, opMod, fixP, asgV, setV, w1]
theorem tape_ok (ns : List Int) (hl : ns.length ≤ 16777216) : ∃ v, runDef C G W tapeD [.imm (.list (ns.map PyData.int))] = .ok v none ∧ Tp 0 v := by
  obtain ⟨v1, h1⟩ := tape_comp (C := C) (G := G) (A := some (.imm (.list (ns.map PyData.int)))) (B := none) (D' := none) ns none
  obtain ⟨s', v', h2, h3, h4⟩ := tape_seed (C := C) (G := G) (W := W) (A := some (.imm (.list (ns.map PyData.int)))) (B := some (.imm (.list ((ns.map absI).map PyData.int)))) (ns.map absI) 7 none (by decide) (by decide)
  refine ⟨.own (.dic (tpL (.list ((ns.map absI).map .int)) 0 0 s' 0)), ?_, ⟨ns.map absI, 0, 0, s', 0, rfl, fun c hc => ?_, by decide, by decide, h3, h4, by decide, by decide⟩⟩
  · have hz : (ns.map PyData.int).length ≤ line := by rw [List.length_map]; exact hl
    have e1 : compF [3] (den C G false (.var 0)).i (asgD false (.var 3)) (den C G false .nil).k (den C G false (.bi .abs (.cons (.bi .int (.cons (.var 3) .nil)) .nil))).e [some (.imm (.list (ns.map PyData.int))), none, none, none] = .ok (.own (.lst ((ns.map absI).map PyData.int))) [some (.imm (.list (ns.map PyData.int))), none, none, none] := by
      show (if (ns.map PyData.int).length ≤ line then _ else _) = _
      rw [if_pos hz]
      show (match compLoop [3] _ _ _ (ns.map PyData.int) [some (.imm (.list (ns.map PyData.int))), none, none, none] with
        | .ok ys L2 => Res.ok (PVal.own (.lst ys)) (backL (hideL [some (.imm (.list (ns.map PyData.int))), none, none, none] [3]) L2 [3])
        | _ => .bad) = _
      rw [h1]
      rfl
    have e2 : denS C G false W (.asg 1 (.comp [3] (.var 3) (.var 0) .nil (.bi .abs (.cons (.bi .int (.cons (.var 3) .nil)) .nil)))) [some (.imm (.list (ns.map PyData.int))), none, none, none] = .next [some (.imm (.list (ns.map PyData.int))), some (.own (.lst ((ns.map absI).map PyData.int))), none, none] := by
      show asgS false 1 (compF [3] (den C G false (.var 0)).i (asgD false (.var 3)) (den C G false .nil).k (den C G false (.bi .abs (.cons (.bi .int (.cons (.var 3) .nil)) .nil))).e) _ = _
      unfold asgS
      rw [e1]
      rfl
    have e3 : denS C G false W tapeD.body [some (.imm (.list (ns.map PyData.int))), none, none, none] = .ret (.own (.dic (tpL (.list ((ns.map absI).map .int)) 0 0 s' 0))) [some (.imm (.list (ns.map PyData.int))), some (.imm (.list ((ns.map absI).map PyData.int))), some (.imm (.int s')), v'] := by
      refine seq_next e2 (seq_next (L1 := [some (.imm (.list (ns.map PyData.int))), some (.own (.lst ((ns.map absI).map PyData.int))), some (.imm (.int 7)), none]) rfl (seq_next h2 ?_))
      with_unfolding_all rfl
    unfold runDef
    rw [if_pos (by rfl)]
    show endDef false (denS C G false W tapeD.body [some (.imm (.list (ns.map PyData.int))), none, none, none]) = _
    rw [e3]
    rfl
  · obtain ⟨n, _, rfl⟩ := List.mem_map.mp hc
    exact absI_nn n
end
end Fw

/-! a block in pieces; a floor square root by halving -/
namespace Fw
open PySem
def takeS : Nat → S → S
  | 0, _ => .pass
  | n + 1, .seq a b => .seq a (takeS n b)
  | _, s => s
def dropS : Nat → S → S
  | 0, s => s
  | n + 1, .seq _ b => dropS n b
  | _, _ => .pass
theorem seg_S {C : Calls} {G : Nat → Option D} {ln : Bool} {W : Nat} : ∀ (n : Nat) (s : S) {L L1 : Loc} {r : SRes}, denS C G ln W (takeS n s) L = .next L1 → denS C G ln W (dropS n s) L1 = r → denS C G ln W s L = r
  | 0, s, L, L1, r, h1, h2 => by
    cases h1
    exact h2
  | n + 1, .seq a b, L, L1, r, h1, h2 => by
    have h1 : seqS (denS C G ln W a) (denS C G ln W (takeS n b)) L = .next L1 := h1
    show seqS (denS C G ln W a) (denS C G ln W b) L = r
    unfold seqS at h1 ⊢
    cases e : denS C G ln W a L with
    | next L2 =>
      simp only [e] at h1 ⊢
      exact seg_S n b h1 h2
    | brk L2 => simp only [e] at h1; cases h1
    | cont L2 => simp only [e] at h1; cases h1
    | ret v L2 => simp only [e] at h1; cases h1
    | err c L2 => simp only [e] at h1; cases h1
    | bad => simp only [e] at h1; cases h1
  | n + 1, .pass, L, L1, r, h1, h2 | n + 1, .asg _ _, L, L1, r, h1, h2 | n + 1, .asgT _ _, L, L1, r, h1, h2 | n + 1, .par _ _, L, L1, r, h1, h2 | n + 1, .put _ _ _, L, L1, r, h1, h2 | n + 1, .aug _ _ _, L, L1, r, h1, h2 | n + 1, .ex _, L, L1, r, h1, h2 | n + 1, .ret _, L, L1, r, h1, h2 | n + 1, .retN, L, L1, r, h1, h2
  | n + 1, .cond _ _ _, L, L1, r, h1, h2 | n + 1, .loop _ _, L, L1, r, h1, h2 | n + 1, .each _ _ _, L, L1, r, h1, h2 | n + 1, .brk, L, L1, r, h1, h2 | n + 1, .cont, L, L1, r, h1, h2 | n + 1, .raise _, L, L1, r, h1, h2 | n + 1, .attempt _ _ _ _, L, L1, r, h1, h2 => by
    have h2 : SRes.next L1 = r := h2
    rw [← h2]
    exact h1
section
variable {C : Calls} {G : Nat → Option D} {ln : Bool} {W : Nat}
theorem dS_seq {a b : S} : denS C G ln W (.seq a b) = seqS (denS C G ln W a) (denS C G ln W b) := rfl
theorem dS_each {t it : E} {a : S} : denS C G ln W (.each t it a) = eachS (asgD ln t) (den C G ln it).i (denS C G ln W a) := rfl
theorem dS_loop {c : E} {a : S} : denS C G ln W (.loop c a) = loopS (den C G ln c).t (denS C G ln W a) W := rfl
theorem dS_pass {L : Loc} : denS C G ln W .pass L = .next L := rfl
theorem dS_asg {i : Nat} {e : E} : denS C G ln W (.asg i e) = asgS ln i (den C G ln e).e := rfl
theorem dS_cond {c : E} {a b : S} : denS C G ln W (.cond c a b) = condS (den C G ln c).t (denS C G ln W a) (denS C G ln W b) := rfl
theorem each_of {asg : Fw.D → Loc → Option Loc} {it : FI} {b : FS} {ds : List Fw.D} {L L1 : Loc} {r : SRes} (h1 : it L = .ok ds L1) (h2 : eachL asg b ds L1 = r) : eachS asg it b L = r := by
  unfold eachS
  rw [h1]
  exact h2
end
theorem rng2_ok {i : Int} {c : Nat} (h1 : -4611686018427387904 ≤ i) (h2 : i < 4611686018427387904) (h3 : -4611686018427387904 ≤ i + c) (h4 : i + c < 4611686018427387904) : rng2 i (i + c) = some ((List.range c).map fun (k : Nat) => PyData.int (i + k)) := by
  unfold rng2
  rw [if_pos ⟨h1, h2, h3, h4⟩]
  have : (i + (c : Int) - i).toNat = c := by omega
  rw [this]
/-! ### the floor of a square root -/
def rootD : Def := ⟨1, 4, false, (.seq (.par [1, 2] (.cons (.cst (.int 0)) (.cons (.bin .add (.var 0) (.cst (.int 1))) .nil)))
  (.seq (.loop (.cmp .gt (.bin .sub (.var 2) (.var 1)) (.cst (.int 1))) (.seq (.asg 3 (.bin .fdiv (.bin .add (.var 1) (.var 2)) (.cst (.int 2))))
  (.cond (.cmp .le (.bin .mul (.var 3) (.var 3)) (.var 0)) (.asg 1 (.var 3)) (.asg 2 (.var 3)))))
  (.ret (.var 1))))⟩
def rootC : E := .cmp .gt (.bin .sub (.var 2) (.var 1)) (.cst (.int 1))
def rootB : S := .seq (.asg 3 (.bin .fdiv (.bin .add (.var 1) (.var 2)) (.cst (.int 2))))
  (.cond (.cmp .le (.bin .mul (.var 3) (.var 3)) (.var 0)) (.asg 1 (.var 3)) (.asg 2 (.var 3)))
section
variable {C : Calls} {G : Nat → Option D} {W0 : Nat}
theorem root_c {n l h : Int} {x : Option LVal} : (den C G false rootC).t [some (.imm (.int n)), some (.imm (.int l)), some (.imm (.int h)), x] = .ok (decide (1 < h - l)) [some (.imm (.int n)), some (.imm (.int l)), some (.imm (.int h)), x] := by
  simp [rootC, den, cmpT, twoF, binF, varF, cstF, getL, Res.bind, rd, LVal.data, ofOpt, opB, opSub, opC, ltD]
theorem root_b {n l h : Int} {x : Option LVal} (w : wideMul ((l + h).fdiv 2) ((l + h).fdiv 2) = true) : denS C G false W0 rootB [some (.imm (.int n)), some (.imm (.int l)), some (.imm (.int h)), x] =
    if (l + h).fdiv 2 * (l + h).fdiv 2 ≤ n then .next [some (.imm (.int n)), some (.imm (.int ((l + h).fdiv 2))), some (.imm (.int h)), some (.imm (.int ((l + h).fdiv 2)))]
    else .next [some (.imm (.int n)), some (.imm (.int l)), some (.imm (.int ((l + h).fdiv 2))), some (.imm (.int ((l + h).fdiv 2)))] := by
  have e3 : okDiv 2 = true := by decide
  by_cases c : (l + h).fdiv 2 * (l + h).fdiv 2 ≤ n <;>
  simp [rootB, denS, seqS, asgS, condS, den, cmpT, twoF, binF, varF, cstF, getL, Res.bind, Res.toS, rd, LVal.data, ofOpt, opB, opAdd, opFdiv, opMul, opC, leD, fixP, asgV, setV, e3, w, c]
theorem root_loop : ∀ (k W : Nat) (n l h : Int) (x : Option LVal), 0 ≤ l → l < h → h ≤ 2 ^ 61 → h - l ≤ 2 ^ k → k + 1 ≤ W → l * l ≤ n → n < h * h →
    ∃ r h' x', loopS (den C G false rootC).t (denS C G false W0 rootB) W [some (.imm (.int n)), some (.imm (.int l)), some (.imm (.int h)), x] = .next [some (.imm (.int n)), some (.imm (.int r)), some (.imm (.int h')), x'] ∧ 0 ≤ r ∧ r * r ≤ n ∧ n < (r + 1) * (r + 1)
  | k, 0, n, l, h, x, _, _, _, _, hW, _, _ => by omega
  | 0, W + 1, n, l, h, x, h1, h2, h3, h4, hW, h5, h6 => by
    have e : h = l + 1 := by
      have : (2 : Int) ^ 0 = 1 := rfl
      omega
    subst e
    refine ⟨l, l + 1, x, loop_end ?_, h1, h5, h6⟩
    rw [root_c]
    have : ¬ (1 < l + 1 - l) := by omega
    simp [this]
  | k + 1, W + 1, n, l, h, x, h1, h2, h3, h4, hW, h5, h6 => by
    by_cases c : 1 < h - l
    · have q : (l + h).fdiv 2 = (l + h) / 2 := Int.fdiv_eq_ediv_of_nonneg _ (by decide)
      have p2 : (2 : Int) ^ (k + 1) = 2 * 2 ^ k := by rw [Int.pow_succ]; omega
      have w : wideMul ((l + h).fdiv 2) ((l + h).fdiv 2) = true := wide64 (by rw [q]; omega) (by rw [q]; omega)
      have b := root_b (C := C) (G := G) (W0 := W0) (n := n) (x := x) w
      have ct : (den C G false rootC).t [some (.imm (.int n)), some (.imm (.int l)), some (.imm (.int h)), x] = .ok true [some (.imm (.int n)), some (.imm (.int l)), some (.imm (.int h)), x] := by rw [root_c]; simp [c]
      by_cases c2 : (l + h).fdiv 2 * (l + h).fdiv 2 ≤ n
      · rw [if_pos c2] at b
        obtain ⟨r, h', x', e, r1⟩ := root_loop k W n ((l + h).fdiv 2) h (some (.imm (.int ((l + h).fdiv 2)))) (by rw [q]; omega) (by rw [q]; omega) h3 (by rw [q]; omega) (by omega) c2 h6
        exact ⟨r, h', x', loop_step ct b e, r1⟩
      · rw [if_neg c2] at b
        obtain ⟨r, h', x', e, r1⟩ := root_loop k W n l ((l + h).fdiv 2) (some (.imm (.int ((l + h).fdiv 2)))) h1 (by rw [q]; omega) (by rw [q]; omega) (by rw [q]; omega) (by omega) h5 (by omega)
        exact ⟨r, h', x', loop_step ct b e, r1⟩
    · have e : h = l + 1 := by omega
      subst e
      refine ⟨l, l + 1, x, loop_end ?_, h1, h5, h6⟩
      rw [root_c]
      simp [c]
theorem root_ok {W : Nat} {n : Int} (h0 : 0 ≤ n) (h1 : n < 2 ^ 60) (hW : 64 ≤ W) : ∃ r, runDef C G W rootD [.imm (.int n)] = .ok (.imm (.int r)) none ∧ 0 ≤ r ∧ r * r ≤ n ∧ n < (r + 1) * (r + 1) := by
  have hs : n < (n + 1) * (n + 1) := by
    have e : (n + 1) * (n + 1) = n * n + n + (n + 1) := by rw [Int.add_mul, Int.mul_add]; omega
    have : 0 ≤ n * n := Int.mul_nonneg h0 h0
    omega
  obtain ⟨r, h', x', e, r1, r2, r3⟩ := root_loop (C := C) (G := G) (W0 := W) 61 W n 0 (n + 1) none (by omega) (by omega) (by omega) (by omega) (by omega) (by omega) hs
  refine ⟨r, ?_, r1, r2, r3⟩
  have e3 : denS C G false W rootD.body [some (.imm (.int n)), none, none, none] = .ret (.imm (.int r)) [some (.imm (.int n)), some (.imm (.int r)), some (.imm (.int h')), x'] :=
    seq_next (L1 := [some (.imm (.int n)), some (.imm (.int 0)), some (.imm (.int (n + 1))), none]) rfl (seq_next e rfl)
  unfold runDef
  rw [if_pos (by rfl)]
  show endDef false (denS C G false W rootD.body [some (.imm (.int n)), none, none, none]) = _
  rw [e3]
  rfl
/-- a draw: the tape lent -/
theorem draw_F {f i : Nat} {L : Loc} {mo : MO} {v' : LVal} {m r : Int} (hL : getL L i = some (.own mo)) (h : C f [.own mo, .imm (.int m)] = .ok (.imm (.int r)) (some v')) :
    (den C G false (.callT f i (.cons (.cst (.int m)) .nil))).e L = .ok (.imm (.int r)) (L.set i (some v')) := by
  simp [den, callTF, hL, keptF, consA, nilA, cstF, Res.bind, keepAll, keepD, callTK, h]
end
section
variable {C : Calls} {G : Nat → Option D} {W : Nat}
theorem getL_ne {L : Loc} {i j : Nat} {v : Option LVal} (h : j ≠ i) : getL (L.set i v) j = getL L j := by
  unfold getL
  rw [List.getElem?_set_ne (Ne.symm h)]
/-- x = l[draw], l a list of one's own -/
theorem asg_pick {f i j t : Nat} {L : Loc} {mo : MO} {v' : LVal} {m r : Int} {ds : List Fw.D} {x : Fw.D} (hj : getL L j = some (.own (.lst ds))) (ht : getL L t = some (.own mo)) (hjt : j ≠ t) (hi : i < L.length) (h : C f [.own mo, .imm (.int m)] = .ok (.imm (.int r)) (some v')) (hx : itemD (.list ds) (.int r) = some x) :
    denS C G false W (.asg i (.item (.var j) (.callT f t (.cons (.cst (.int m)) .nil)))) L = .next ((L.set t (some v')).set i (some (.imm x))) := by
  have d := draw_F (C := C) (G := G) (f := f) (i := t) ht h
  have e1 : (den C G false (.var j)).e L = .ok (.loc j) L := by
    show varF j L = _
    unfold varF
    rw [hj]
  have e2 : rd (L.set t (some v')) (.loc j) = some (.list ds) := by
    show (getL (L.set t (some v')) j).map LVal.data = _
    rw [getL_ne hjt, hj]
    rfl
  show asgS false i (itemF (den C G false (.var j)).e (den C G false (.callT f t (.cons (.cst (.int m)) .nil))).e) L = _
  unfold asgS itemF twoF
  simp only [e1, d, Res.bind, e2, show rd (L.set t (some v')) (.imm (.int r)) = some (.int r) from rfl, hx, Res.toS, fixP, asgV, setV, List.length_set, hi, Bool.false_eq_true, false_and, not_false_eq_true, and_self, if_true]
end
/-! ### no square -/
def isqG : Nat → Nat → Nat → Nat
  | 0, _, x => x
  | f + 1, n, x => if Nat.blt ((x + n / x) / 2) x then isqG f n ((x + n / x) / 2) else x
def isq (n : Nat) : Nat := isqG 60 n (2 ^ (n.log2 / 2 + 1))
/-- n lies between the squares of two neighbours -/
def noSq (n : Nat) : Bool := Nat.blt (isq n * isq n) n && Nat.blt n ((isq n + 1) * (isq n + 1))
theorem noSq_ne {n : Nat} (h : noSq n = true) (r : Nat) : r * r ≠ n := by
  unfold noSq at h
  rw [Bool.and_eq_true, Nat.blt_eq, Nat.blt_eq] at h
  obtain ⟨h1, h2⟩ := h
  intro e
  rw [← e] at h1 h2
  have a := Nat.mul_self_lt_mul_self_iff.mp h1
  have b := Nat.mul_self_lt_mul_self_iff.mp h2
  omega
theorem noSq_int {n : Int} (h0 : 0 ≤ n) (h : noSq n.toNat = true) {r : Int} (hr : 0 ≤ r) : r * r ≠ n := fun e => by
  refine noSq_ne h r.toNat ?_
  have : ((r.toNat * r.toNat : Nat) : Int) = n := by rw [Int.natCast_mul, Int.toNat_of_nonneg hr]; exact e
  omega
end Fw

set_option maxRecDepth 100000
set_option maxHeartbeats 0
set_option linter.all false
namespace Lw
open PySem Fw
def d0 : Def := ⟨1, 4, false, (.seq (.asg 1 (.comp [3] (.var 3) (.var 0) .nil (.bi .abs (.cons (.bi .int (.cons (.var 3) .nil)) .nil))))
  (.seq (.asg 2 (.cst (.int 7)))
  (.seq (.each (.var 3) (.var 1) (.asg 2 (.bin .mod (.bi .int (.cons (.bin .add (.bin .mul (.var 2) (.cst (.int 31))) (.var 3)) .nil)) (.cst (.int 2147483647)))))
  (.ret (.dct (.cons (.cst (.str (PySem.Str.ofString "cells"))) (.cons (.var 1) (.cons (.cst (.str (PySem.Str.ofString "at"))) (.cons (.cst (.int 0)) (.cons (.cst (.str (PySem.Str.ofString "left"))) (.cons (.cst (.int 0)) (.cons (.cst (.str (PySem.Str.ofString "seed"))) (.cons (.var 2) (.cons (.cst (.str (PySem.Str.ofString "salt"))) (.cons (.cst (.int 0)) .nil)))))))))))))))⟩
def d1 : Def := ⟨1, 5, false, (.seq (.par [1, 2, 3] (.cons (.bi .abs (.cons (.var 0) .nil)) (.cons (.lst .nil) (.cons (.cst (.int 2)) .nil))))
  (.seq (.loop (.cmp .gt (.var 1) (.cst (.int 1))) (.seq (.cond (.cmp .gt (.bin .mul (.var 3) (.var 3)) (.var 1)) (.asg 3 (.var 1)) .pass)
  (.seq (.asg 4 (.cst (.int 0)))
  (.seq (.loop (.cmp .eq (.bin .mod (.var 1) (.var 3)) (.cst (.int 0))) (.seq (.aug .fdiv 1 (.var 3))
  (.aug .add 4 (.cst (.int 1)))))
  (.seq (.cond (.cmp .gt (.var 4) (.cst (.int 0))) (.ex (.append 2 (.tup (.cons (.var 3) (.cons (.var 4) .nil))))) .pass)
  (.aug .add 3 (.cst (.int 1))))))))
  (.ret (.var 2))))⟩
def d2 : Def := ⟨1, 6, false, (.seq (.par [1, 2] (.cons (.ite (.cmp .gt (.var 0) (.cst (.int 0))) (.cst (.int 1)) (.neg (.cst (.int 1)))) (.cons (.cst (.int 1)) .nil)))
  (.seq (.each (.tup (.cons (.var 3) (.cons (.var 4) .nil))) (.call 1 (.cons (.var 0) .nil)) (.seq (.each (.var 5) (.rng1 (.cons (.bin .fdiv (.var 4) (.cst (.int 2))) .nil)) (.asg 2 (.bin .mul (.var 2) (.var 3))))
  (.cond (.cmp .eq (.bin .mod (.var 4) (.cst (.int 2))) (.cst (.int 1))) (.asg 1 (.bin .mul (.var 1) (.var 3))) .pass)))
  (.ret (.tup (.cons (.var 1) (.cons (.var 2) .nil))))))⟩
def d3 : Def := ⟨1, 1, false, (.cond (.or (.cmp .isin (.var 0) (.tup (.cons (.cst (.int 0)) (.cons (.cst (.int 1)) .nil)))) (.cmp .ne (.item (.call 2 (.cons (.var 0) .nil)) (.cst (.int 1))) (.cst (.int 1)))) (.raise 0) .pass)⟩
def d4 : Def := ⟨1, 4, false, (.seq (.par [1, 2] (.cons (.cst (.int 0)) (.cons (.bin .add (.var 0) (.cst (.int 1))) .nil)))
  (.seq (.loop (.cmp .gt (.bin .sub (.var 2) (.var 1)) (.cst (.int 1))) (.seq (.asg 3 (.bin .fdiv (.bin .add (.var 1) (.var 2)) (.cst (.int 2))))
  (.cond (.cmp .le (.bin .mul (.var 3) (.var 3)) (.var 0)) (.asg 1 (.var 3)) (.asg 2 (.var 3)))))
  (.ret (.var 1))))⟩
def d5 : Def := ⟨1, 1, false, (.ret (.and (.cmp .ge (.var 0) (.cst (.int 0))) (.cmp .eq (.bin .mul (.call 4 (.cons (.var 0) .nil)) (.call 4 (.cons (.var 0) .nil))) (.var 0))))⟩
def d6 : Def := ⟨1, 5, false, (.seq (.ex (.call 3 (.cons (.var 0) .nil)))
  (.seq (.cond (.cmp .lt (.var 0) (.cst (.int 2))) (.raise 0) .pass)
  (.seq (.asg 1 (.cst (.int 1)))
  (.loop (.cst (.bool true)) (.seq (.each (.var 2) (.tup (.cons (.neg (.cst (.int 1))) (.cons (.cst (.int 1)) .nil))) (.cond (.cmp .eq (.bin .mod (.var 0) (.cst (.int 4))) (.cst (.int 1))) (.seq (.asg 3 (.bin .add (.bin .mul (.bin .mul (.var 0) (.var 1)) (.var 1)) (.bin .mul (.cst (.int 4)) (.var 2))))
  (.cond (.call 5 (.cons (.var 3) .nil)) (.seq (.asg 4 (.call 4 (.cons (.var 3) .nil)))
  (.ret (.ite (.and (.cmp .eq (.bin .mod (.var 4) (.cst (.int 2))) (.cst (.int 0))) (.cmp .eq (.bin .mod (.var 1) (.cst (.int 2))) (.cst (.int 0)))) (.tup (.cons (.bin .fdiv (.var 4) (.cst (.int 2))) (.cons (.bin .fdiv (.var 1) (.cst (.int 2))) (.cons (.cst (.int 1)) .nil)))) (.tup (.cons (.var 4) (.cons (.var 1) (.cons (.cst (.int 2)) .nil))))))) .pass)) (.cond (.call 5 (.cons (.bin .add (.bin .mul (.bin .mul (.var 0) (.var 1)) (.var 1)) (.var 2)) .nil)) (.ret (.tup (.cons (.call 4 (.cons (.bin .add (.bin .mul (.bin .mul (.var 0) (.var 1)) (.var 1)) (.var 2)) .nil)) (.cons (.var 1) (.cons (.cst (.int 1)) .nil))))) .pass)))
  (.aug .add 1 (.cst (.int 1))))))))⟩
def d7 : Def := ⟨1, 6, false, (.seq (.cond (.or (.call 5 (.cons (.var 0) .nil)) (.cmp .lt (.var 0) (.cst (.int 0)))) (.raise 0) .pass)
  (.seq (.asg 1 (.call 4 (.cons (.var 0) .nil)))
  (.seq (.par [2, 3, 4, 5] (.cons (.lst .nil) (.cons (.cst (.int 0)) (.cons (.cst (.int 1)) (.cons (.var 1) .nil)))))
  (.seq (.loop (.cmp .ne (.var 5) (.bin .mul (.cst (.int 2)) (.var 1))) (.seq (.asg 3 (.bin .sub (.bin .mul (.var 4) (.var 5)) (.var 3)))
  (.seq (.asg 4 (.bin .fdiv (.bin .sub (.var 0) (.bin .mul (.var 3) (.var 3))) (.var 4)))
  (.seq (.asg 5 (.bin .fdiv (.bin .add (.var 1) (.var 3)) (.var 4)))
  (.ex (.append 2 (.var 5)))))))
  (.ret (.tup (.cons (.var 1) (.cons (.bi .tuple (.cons (.var 2) .nil)) .nil))))))))⟩
def d8 : Def := ⟨1, 10, false, (.seq (.asgT (.tup (.cons (.var 1) (.cons (.var 2) .nil))) (.call 7 (.cons (.var 0) .nil)))
  (.seq (.asg 3 (.ite (.cmp .eq (.bin .mod (.bi .len (.cons (.var 2) .nil)) (.cst (.int 2))) (.cst (.int 0))) (.bi .len (.cons (.var 2) .nil)) (.bin .mul (.cst (.int 2)) (.bi .len (.cons (.var 2) .nil)))))
  (.seq (.asg 4 (.bin .add (.lst (.cons (.var 1) .nil)) (.slc (.bin .mul (.bi .list (.cons (.var 2) .nil)) (.cst (.int 2))) .nil (.bin .sub (.var 3) (.cst (.int 1))))))
  (.seq (.par [5, 6, 7, 8] (.cons (.item (.var 4) (.cst (.int 0))) (.cons (.cst (.int 1)) (.cons (.cst (.int 1)) (.cons (.cst (.int 0)) .nil)))))
  (.seq (.each (.var 9) (.slc (.var 4) (.cst (.int 1)) .nil) (.seq (.par [5, 6] (.cons (.bin .add (.bin .mul (.var 9) (.var 5)) (.var 6)) (.cons (.var 5) .nil)))
  (.par [7, 8] (.cons (.bin .add (.bin .mul (.var 9) (.var 7)) (.var 8)) (.cons (.var 7) .nil)))))
  (.ret (.tup (.cons (.var 5) (.cons (.var 7) .nil)))))))))⟩
def d9 : Def := ⟨2, 4, true, (.seq (.cond (.and (.cmp .eq (.item (.var 0) (.cst (.str (PySem.Str.ofString "left")))) (.cst (.int 0))) (.cmp .lt (.item (.var 0) (.cst (.str (PySem.Str.ofString "at")))) (.bi .len (.cons (.item (.var 0) (.cst (.str (PySem.Str.ofString "cells")))) .nil)))) (.seq (.put 0 (.cst (.str (PySem.Str.ofString "left"))) (.item (.item (.var 0) (.cst (.str (PySem.Str.ofString "cells")))) (.item (.var 0) (.cst (.str (PySem.Str.ofString "at"))))))
  (.put 0 (.cst (.str (PySem.Str.ofString "at"))) (.bin .add (.item (.var 0) (.cst (.str (PySem.Str.ofString "at")))) (.cst (.int 1))))) .pass)
  (.seq (.cond (.cmp .gt (.item (.var 0) (.cst (.str (PySem.Str.ofString "left")))) (.cst (.int 0))) (.seq (.asg 2 (.bin .mod (.bi .int (.cons (.item (.var 0) (.cst (.str (PySem.Str.ofString "left")))) .nil)) (.var 1)))
  (.seq (.put 0 (.cst (.str (PySem.Str.ofString "left"))) (.bin .fdiv (.item (.var 0) (.cst (.str (PySem.Str.ofString "left")))) (.var 1)))
  (.ret (.var 2)))) .pass)
  (.seq (.put 0 (.cst (.str (PySem.Str.ofString "salt"))) (.bin .add (.item (.var 0) (.cst (.str (PySem.Str.ofString "salt")))) (.cst (.int 1))))
  (.seq (.asg 3 (.bin .mod (.bi .int (.cons (.bin .add (.bin .mul (.item (.var 0) (.cst (.str (PySem.Str.ofString "seed")))) (.cst (.int 48271))) (.bin .mul (.item (.var 0) (.cst (.str (PySem.Str.ofString "salt")))) (.cst (.int 69621)))) .nil)) (.cst (.int 2147483647))))
  (.seq (.asg 3 (.bin .mod (.bi .int (.cons (.bin .add (.bin .add (.bin .mul (.var 3) (.var 3)) (.bin .mul (.item (.var 0) (.cst (.str (PySem.Str.ofString "salt")))) (.cst (.int 40692)))) (.cst (.int 12345))) .nil)) (.cst (.int 2147483399))))
  (.ret (.bin .mod (.bi .int (.cons (.var 3) .nil)) (.var 1))))))))⟩
def d10 : Def := ⟨1, 4, false, (.seq (.asgT (.tup (.cons (.var 1) (.cons (.var 2) (.cons (.var 3) .nil)))) (.call 6 (.cons (.var 0) .nil)))
  (.ret (.bin .fdiv (.bin .sub (.bin .mul (.var 1) (.var 1)) (.bin .mul (.bin .mul (.var 0) (.var 2)) (.var 2))) (.bin .mul (.var 3) (.var 3)))))⟩
def d11 : Def := ⟨1, 2, false, (.seq (.asg 1 (.cst (.int 0)))
  (.seq (.loop (.cmp .le (.bin .mul (.bin .add (.var 1) (.cst (.int 1))) (.bin .add (.var 1) (.cst (.int 1)))) (.var 0)) (.asg 1 (.bin .add (.var 1) (.cst (.int 1)))))
  (.ret (.var 1))))⟩
def d12 : Def := ⟨1, 4, false, (.seq (.par [1, 2] (.cons (.cst (.int 0)) (.cons (.bin .add (.var 0) (.cst (.int 1))) .nil)))
  (.seq (.loop (.cmp .gt (.bin .sub (.var 2) (.var 1)) (.cst (.int 1))) (.seq (.asg 3 (.bin .fdiv (.bin .add (.var 1) (.var 2)) (.cst (.int 2))))
  (.cond (.cmp .le (.bin .mul (.var 3) (.var 3)) (.var 0)) (.asg 1 (.var 3)) (.asg 2 (.var 3)))))
  (.ret (.var 1))))⟩
def d13 : Def := ⟨1, 24, false, (.seq (.asg 1 (.call 0 (.cons (.var 0) .nil)))
  (.seq (.asg 2 (.lst (.cons (.cst (.int 2)) (.cons (.cst (.int 3)) (.cons (.cst (.int 5)) (.cons (.cst (.int 6)) (.cons (.cst (.int 7)) (.cons (.cst (.int 10)) (.cons (.cst (.int 11)) (.cons (.cst (.int 13)) (.cons (.cst (.int 14)) (.cons (.cst (.int 15)) (.cons (.cst (.int 17)) (.cons (.cst (.int 21)) (.cons (.cst (.int 29)) (.cons (.cst (.int 33)) (.cons (.cst (.int 37)) (.cons (.cst (.int 41)) (.cons (.cst (.int 53)) (.cons (.cst (.int 65)) (.cons (.cst (.int 69)) (.cons (.cst (.int 77)) (.cons (.cst (.int 85)) .nil)))))))))))))))))))))))
  (.seq (.asg 3 (.item (.var 2) (.callT 9 1 (.cons (.cst (.int 21)) .nil))))
  (.seq (.asgT (.tup (.cons (.var 4) (.cons (.var 5) (.cons (.var 6) .nil)))) (.call 6 (.cons (.var 3) .nil)))
  (.seq (.asg 7 (.bin .sub (.bin .mul (.var 4) (.var 4)) (.bin .mul (.bin .mul (.var 3) (.var 5)) (.var 5))))
  (.seq (.cond (.or (.cmp .notin (.var 6) (.tup (.cons (.cst (.int 1)) (.cons (.cst (.int 2)) .nil)))) (.or (.cmp .notin (.var 7) (.tup (.cons (.bin .mul (.var 6) (.var 6)) (.cons (.bin .mul (.neg (.var 6)) (.var 6)) .nil)))) (.or (.cmp .lt (.var 4) (.cst (.int 1))) (.or (.cmp .lt (.var 5) (.cst (.int 1))) (.or (.and (.cmp .eq (.var 6) (.cst (.int 2))) (.or (.cmp .ne (.bin .mod (.var 3) (.cst (.int 4))) (.cst (.int 1))) (.or (.cmp .eq (.bin .mod (.var 4) (.cst (.int 2))) (.cst (.int 0))) (.cmp .eq (.bin .mod (.var 5) (.cst (.int 2))) (.cst (.int 0)))))) (.cmp .ne (.call 10 (.cons (.var 3) .nil)) (.bin .fdiv (.var 7) (.bin .mul (.var 6) (.var 6))))))))) (.ret (.cst (.bool false))) .pass)
  (.seq (.asg 8 (.bin .fdiv (.cst (.int 2)) (.var 6)))
  (.seq (.each (.var 9) (.rng2 (.cons (.cst (.int 1)) (.cons (.bin .mul (.var 5) (.var 8)) .nil))) (.each (.var 10) (.tup (.cons (.neg (.cst (.int 4))) (.cons (.cst (.int 4)) .nil))) (.seq (.asg 11 (.bin .add (.bin .mul (.bin .mul (.var 3) (.var 9)) (.var 9)) (.var 10)))
  (.cond (.and (.cmp .gt (.var 11) (.cst (.int 0))) (.cmp .eq (.bin .mul (.call 11 (.cons (.var 11) .nil)) (.call 11 (.cons (.var 11) .nil))) (.var 11))) (.seq (.asg 12 (.call 11 (.cons (.var 11) .nil)))
  (.cond (.or (.and (.cmp .eq (.bin .mod (.var 3) (.cst (.int 4))) (.cst (.int 1))) (.cmp .eq (.bin .mod (.bin .sub (.var 12) (.var 9)) (.cst (.int 2))) (.cst (.int 0)))) (.and (.cmp .eq (.bin .mod (.var 12) (.cst (.int 2))) (.cst (.int 0))) (.cmp .eq (.bin .mod (.var 9) (.cst (.int 2))) (.cst (.int 0))))) (.ret (.cst (.bool false))) .pass)) .pass))))
  (.seq (.asg 13 (.bin .add (.cst (.int 2)) (.callT 9 1 (.cons (.cst (.int 60)) .nil))))
  (.seq (.cond (.cmp .eq (.bin .mul (.call 11 (.cons (.var 13) .nil)) (.call 11 (.cons (.var 13) .nil))) (.var 13)) (.attempt (.seq (.ex (.call 7 (.cons (.var 13) .nil)))
  (.ret (.cst (.bool false)))) [0] [] (.ret (.cst (.bool true)))) .pass)
  (.seq (.asgT (.tup (.cons (.var 14) (.cons (.var 15) .nil))) (.call 7 (.cons (.var 13) .nil)))
  (.seq (.cond (.or (.cmp .ne (.var 14) (.call 11 (.cons (.var 13) .nil))) (.or (.cmp .ne (.item (.var 15) (.neg (.cst (.int 1)))) (.bin .mul (.cst (.int 2)) (.var 14))) (.cmp .ne (.bi .list (.cons (.slc (.var 15) .nil (.neg (.cst (.int 1)))) .nil)) (.rev (.bi .list (.cons (.slc (.var 15) .nil (.neg (.cst (.int 1)))) .nil)))))) (.ret (.cst (.bool false))) .pass)
  (.seq (.par [16, 17] (.cons (.cst (.int 0)) (.cons (.cst (.int 1)) .nil)))
  (.seq (.asg 18 (.lst .nil))
  (.seq (.each (.var 19) (.rng1 (.cons (.bin .add (.bi .len (.cons (.var 15) .nil)) (.cst (.int 1))) .nil)) (.seq (.asg 20 (.bin .fdiv (.bin .add (.call 11 (.cons (.var 13) .nil)) (.var 16)) (.var 17)))
  (.seq (.ex (.append 18 (.var 20)))
  (.seq (.asg 16 (.bin .sub (.bin .mul (.var 20) (.var 17)) (.var 16)))
  (.asg 17 (.bin .fdiv (.bin .sub (.var 13) (.bin .mul (.var 16) (.var 16))) (.var 17)))))))
  (.seq (.cond (.cmp .ne (.var 18) (.bin .add (.lst (.cons (.var 14) .nil)) (.bi .list (.cons (.var 15) .nil)))) (.ret (.cst (.bool false))) .pass)
  (.seq (.asgT (.tup (.cons (.var 12) (.cons (.var 9) .nil))) (.call 8 (.cons (.var 13) .nil)))
  (.seq (.cond (.or (.cmp .ne (.bin .sub (.bin .mul (.var 12) (.var 12)) (.bin .mul (.bin .mul (.var 13) (.var 9)) (.var 9))) (.cst (.int 1))) (.or (.cmp .lt (.var 12) (.cst (.int 2))) (.cmp .lt (.var 9) (.cst (.int 1))))) (.ret (.cst (.bool false))) .pass)
  (.seq (.each (.var 21) (.rng2 (.cons (.cst (.int 1)) (.cons (.bi .min2 (.cons (.var 9) (.cons (.cst (.int 3000)) .nil))) .nil))) (.seq (.asg 11 (.bin .add (.bin .mul (.bin .mul (.var 13) (.var 21)) (.var 21)) (.cst (.int 1))))
  (.cond (.cmp .eq (.bin .mul (.call 12 (.cons (.var 11) .nil)) (.call 12 (.cons (.var 11) .nil))) (.var 11)) (.ret (.cst (.bool false))) .pass)))
  (.seq (.asg 22 (.cst (.int 0)))
  (.seq (.each (.var 23) (.tup (.cons (.neg (.cst (.int 3))) (.cons (.cst (.int 1)) (.cons (.cst (.int 12)) .nil)))) (.attempt (.ex (.call 6 (.cons (.var 23) .nil))) [0] [] (.asg 22 (.bin .add (.var 22) (.cst (.int 1))))))
  (.ret (.cmp .eq (.var 22) (.cst (.int 3)))))))))))))))))))))))))⟩
def P : List Def := [d0, d1, d2, d3, d4, d5, d6, d7, d8, d9, d10, d11, d12, d13]
def gc : Nat → Option D
  | _ => none
def nLaw : Nat := 13
end Lw
namespace Lw
open PySem PySem.Spec L2 Fw
abbrev prg : Program := PySem.Challenge.pw_rootsinlayers_k17_whole_units_and_fracti
def top (i : Nat) : Stmt := prg.main.body.getD i (.Pass ⟨0, 0, 0, 0⟩)
abbrev st0 : Stmt := top 15
def N0 : List Str := ["script", "cells", "seed", "cell"]
def p0 : List Str := ["script"]
theorem fs0 : FnScope N0 p0 (L2.defScope st0) := ⟨rfl, rfl, rfl, by decide +kernel, rfl, by decide +kernel, by decide +kernel⟩
abbrev st1 : Stmt := top 4
def N1 : List Str := ["number", "left", "found", "part", "count"]
def p1 : List Str := ["number"]
theorem fs1 : FnScope N1 p1 (L2.defScope st1) := ⟨rfl, rfl, rfl, by decide +kernel, rfl, by decide +kernel, by decide +kernel⟩
abbrev st2 : Stmt := top 7
def N2 : List Str := ["number", "free", "root", "prime", "count", "_"]
def p2 : List Str := ["number"]
theorem fs2 : FnScope N2 p2 (L2.defScope st2) := ⟨rfl, rfl, rfl, by decide +kernel, rfl, by decide +kernel, by decide +kernel⟩
abbrev st3 : Stmt := top 9
def N3 : List Str := ["d"]
def p3 : List Str := ["d"]
theorem fs3 : FnScope N3 p3 (L2.defScope st3) := ⟨rfl, rfl, rfl, by decide +kernel, rfl, by decide +kernel, by decide +kernel⟩
abbrev st4 : Stmt := top 5
def N4 : List Str := ["number", "low", "high", "middle"]
def p4 : List Str := ["number"]
theorem fs4 : FnScope N4 p4 (L2.defScope st4) := ⟨rfl, rfl, rfl, by decide +kernel, rfl, by decide +kernel, by decide +kernel⟩
abbrev st5 : Stmt := top 6
def N5 : List Str := ["number"]
def p5 : List Str := ["number"]
theorem fs5 : FnScope N5 p5 (L2.defScope st5) := ⟨rfl, rfl, rfl, by decide +kernel, rfl, by decide +kernel, by decide +kernel⟩
abbrev st6 : Stmt := top 10
def N6 : List Str := ["d", "y", "sign", "square", "x"]
def p6 : List Str := ["d"]
theorem fs6 : FnScope N6 p6 (L2.defScope st6) := ⟨rfl, rfl, rfl, by decide +kernel, rfl, by decide +kernel, by decide +kernel⟩
abbrev st7 : Stmt := top 12
def N7 : List Str := ["d", "first", "found", "m", "q", "a"]
def p7 : List Str := ["d"]
theorem fs7 : FnScope N7 p7 (L2.defScope st7) := ⟨rfl, rfl, rfl, by decide +kernel, rfl, by decide +kernel, by decide +kernel⟩
abbrev st8 : Stmt := top 13
def N8 : List Str := ["d", "first", "period", "count", "row", "top", "before", "low", "under", "one"]
def p8 : List Str := ["d"]
theorem fs8 : FnScope N8 p8 (L2.defScope st8) := ⟨rfl, rfl, rfl, by decide +kernel, rfl, by decide +kernel, by decide +kernel⟩
abbrev st9 : Stmt := top 16
def N9 : List Str := ["tape", "many", "drawn", "mixed"]
def p9 : List Str := ["tape", "many"]
theorem fs9 : FnScope N9 p9 (L2.defScope st9) := ⟨rfl, rfl, rfl, by decide +kernel, rfl, by decide +kernel, by decide +kernel⟩
abbrev st10 : Stmt := top 11
def N10 : List Str := ["d", "x", "y", "bottom"]
def p10 : List Str := ["d"]
theorem fs10 : FnScope N10 p10 (L2.defScope st10) := ⟨rfl, rfl, rfl, by decide +kernel, rfl, by decide +kernel, by decide +kernel⟩
abbrev st11 : Stmt := top 20
def N11 : List Str := ["n", "x"]
def p11 : List Str := ["n"]
theorem fs11 : FnScope N11 p11 (L2.defScope st11) := ⟨rfl, rfl, rfl, by decide +kernel, rfl, by decide +kernel, by decide +kernel⟩
abbrev st12 : Stmt := top 21
def N12 : List Str := ["n", "low", "high", "middle"]
def p12 : List Str := ["n"]
theorem fs12 : FnScope N12 p12 (L2.defScope st12) := ⟨rfl, rfl, rfl, by decide +kernel, rfl, by decide +kernel, by decide +kernel⟩
abbrev st13 : Stmt := top 22
def N13 : List Str := ["script", "tape", "ds", "d", "x", "y", "n", "norm", "scale", "v", "sign", "square", "u", "m", "first", "period", "a", "b", "row", "step", "q", "w", "found", "wrong"]
def p13 : List Str := ["script"]
theorem fs13 : FnScope N13 p13 (L2.defScope st13) := ⟨rfl, rfl, rfl, by decide +kernel, rfl, by decide +kernel, by decide +kernel⟩
/-- the defs as they may be called -/
structure Cs (P : Program) (w : World) (K : PySem.W.Frag) (mg : Str → Option Value) (base : Heap) (ca : Nat → Value) (C : Calls) (k : Nat) : Prop where
  cal_0 : Cal P w K mg base ca C k 0 "_law_tape" 1 false
  cal_1 : Cal P w K mg base ca C k 1 "factored" 1 false
  cal_2 : Cal P w K mg base ca C k 2 "square_free" 1 false
  cal_3 : Cal P w K mg base ca C k 3 "check" 1 false
  cal_4 : Cal P w K mg base ca C k 4 "square_root" 1 false
  cal_5 : Cal P w K mg base ca C k 5 "is_square" 1 false
  cal_6 : Cal P w K mg base ca C k 6 "fundamental_unit" 1 false
  cal_7 : Cal P w K mg base ca C k 7 "continued_root" 1 false
  cal_8 : Cal P w K mg base ca C k 8 "pell" 1 false
  cal_9 : Cal P w K mg base ca C k 9 "_law_take" 2 true
  cal_10 : Cal P w K mg base ca C k 10 "unit_norm" 1 false
  cal_11 : Cal P w K mg base ca C k 11 "_law_root" 1 false
  cal_12 : Cal P w K mg base ca C k 12 "_law_root_fast" 1 false
/-- the rest of the module -/
structure Md (K : PySem.W.Frag) (mg : Str → Option Value) (ca : Nat → Value) : Prop where
  fr_abs : mg "abs" = none
  fr_int : mg "int" = none
  fr_range : mg "range" = none
  fr_tuple : mg "tuple" = none
  fr_len : mg "len" = none
  fr_list : mg "list" = none
  fr_min : mg "min" = none
  kls_0 : Kls K mg ca 0 "NoField"
  nam_0 : mg "NoField" = some (ca 0)
  exm_0_0 : PySem.W.exmOne K (ca 0) (ca 0) = some true
structure Tx (P : Program) (w : World) (K : PySem.W.Frag) (mg : Str → Option Value) (base : Heap) (ca : Nat → Value) (C : Calls) (k : Nat) : Prop extends Cs P w K mg base ca C k, Md K mg ca
section
variable {w : World} {K : PySem.W.Frag} {mg : Str → Option Value} {base : Heap} {ca : Nat → Value} {C : Calls} {k W : Nat} {f : Addr} {fd : FuncData}
abbrev FnP (K : PySem.W.Frag) (x : Str) (st : Stmt) (f : Addr) (fd : FuncData) : Prop := FunD K x x (L2.defArgs st) (L2.defBody st) (L2.defScope st) [] [] f fd
theorem ok0 (FD : FnP K "_law_tape" st0 f fd) (T : Tx prg w K mg base ca C k) : FnOk prg w K mg base (L2.CX prg w) (k + 1) f fd p0 (FnS K ca 1 (runDef C gc W d0) false) :=
  def_ok (d := d0) FD fs0 rfl rfl fun cdv A outer s H E n =>
  (sc (sac n.toCb rfl rfl rfl (ow := [("cell", 3)]) rfl rfl (by decide) tg_var (jis n.toCb.toCh (jv ⟨rfl, rfl, rfl⟩) rfl) (fun _ _ _ _ _ b1 => (jg b1.toCh ⟨rfl, rfl, .inr rfl⟩)) (fun _ _ _ _ _ b1 => jk0) (fun _ _ _ _ _ b1 => (jbi .abs b1 rfl T.fr_abs (ja (jbi .int b1 rfl T.fr_int (ja (jv ⟨rfl, rfl, rfl⟩) ja0 rfl) rfl rfl) ja0 rfl) rfl rfl)) (fun _ => rfl))
  (sc (sa n.toCb.toCh ⟨rfl, rfl, .inl rfl⟩ jkI rfl)
  (sc (sf n tg_var (jg n.toCb.toCh ⟨rfl, rfl, .inl rfl⟩) (jis n.toCb.toCh (jv ⟨rfl, rfl, rfl⟩) rfl) (s1 (sa n.toCb.toCh ⟨rfl, rfl, .inl rfl⟩ (jb .mod n.toCb.toCh (jbi .int n.toCb rfl T.fr_int (ja (jb .add n.toCb.toCh (jb .mul n.toCb.toCh (jv ⟨rfl, rfl, rfl⟩) jkI) (jv ⟨rfl, rfl, rfl⟩)) ja0 rfl) rfl rfl) jkI) rfl)) (fun _ => rfl))
  (s1 (sr (jd (jp jkS (jv ⟨rfl, rfl, rfl⟩) (jp jkS jkI (jp jkS jkI (jp jkS (jv ⟨rfl, rfl, rfl⟩) (jp jkS jkI jp0))))) rfl rfl (by simp) (by decide)))))))
theorem ok1 (FD : FnP K "factored" st1 f fd) (T : Tx prg w K mg base ca C k) : FnOk prg w K mg base (L2.CX prg w) (k + 1) f fd p1 (FnS K ca 1 (runDef C gc W d1) false) :=
  def_ok (d := d1) FD fs1 rfl rfl fun cdv A outer s H E n =>
  (sc (sp3 n.toCb rfl rfl rfl (by decide) (by decide) (by decide) rfl rfl rfl (ja (jbi .abs n.toCb rfl T.fr_abs (ja (jv ⟨rfl, rfl, rfl⟩) ja0 rfl) rfl rfl) (ja (jls ja0) (ja jkI ja0 rfl) rfl) rfl) rfl rfl)
  (sc (sw n (jtc .gt n.toCb.toCh (jv ⟨rfl, rfl, rfl⟩) jkI rfl) (sc (si (jtc .gt n.toCb.toCh (jb .mul n.toCb.toCh (jv ⟨rfl, rfl, rfl⟩) (jv ⟨rfl, rfl, rfl⟩)) (jv ⟨rfl, rfl, rfl⟩) rfl) (s1 (sa n.toCb.toCh ⟨rfl, rfl, .inl rfl⟩ (jv ⟨rfl, rfl, rfl⟩) rfl)) s0)
  (sc (sa n.toCb.toCh ⟨rfl, rfl, .inl rfl⟩ jkI rfl)
  (sc (sw n (jtc .eq n.toCb.toCh (jb .mod n.toCb.toCh (jv ⟨rfl, rfl, rfl⟩) (jv ⟨rfl, rfl, rfl⟩)) jkI rfl) (sc (sau .fdiv n.toCb.toCh ⟨rfl, rfl, .inl rfl⟩ (jv ⟨rfl, rfl, rfl⟩))
  (s1 (sau .add n.toCb.toCh ⟨rfl, rfl, .inl rfl⟩ jkI))))
  (sc (si (jtc .gt n.toCb.toCh (jv ⟨rfl, rfl, rfl⟩) jkI rfl) (s1 (sx (sap n.toCb.toCh ⟨rfl, rfl, rfl⟩ (jtp (ja (jv ⟨rfl, rfl, rfl⟩) (ja (jv ⟨rfl, rfl, rfl⟩) ja0 rfl) rfl)) rfl rfl rfl) rfl)) s0)
  (s1 (sau .add n.toCb.toCh ⟨rfl, rfl, .inl rfl⟩ jkI)))))))
  (s1 (sr (jv ⟨rfl, rfl, rfl⟩)))))
theorem ok2 (FD : FnP K "square_free" st2 f fd) (T : Tx prg w K mg base ca C k) : FnOk prg w K mg base (L2.CX prg w) (k + 1) f fd p2 (FnS K ca 1 (runDef C gc W d2) false) :=
  def_ok (d := d2) FD fs2 rfl rfl fun cdv A outer s H E n =>
  (sc (sp2 n.toCb rfl rfl (by decide) rfl rfl (ja (jif (jtc .gt n.toCb.toCh (jv ⟨rfl, rfl, rfl⟩) jkI rfl) jkI (jng jkI)) (ja jkI ja0 rfl) rfl) rfl rfl)
  (sc (sf n (tgT (tgs_cons tg_var (tgs_cons tg_var tgs_nil)) rfl) (jgT n.toCb (jgs (jg n.toCb.toCh ⟨rfl, rfl, .inl rfl⟩) (jgs (jg n.toCb.toCh ⟨rfl, rfl, .inl rfl⟩) jgs0 rfl) rfl) rfl rfl) (jis n.toCb.toCh (jcl n.toCb T.cal_1 rfl (ja (jv ⟨rfl, rfl, rfl⟩) ja0 rfl) rfl rfl) rfl) (sc (sf n tg_var (jg n.toCb.toCh ⟨rfl, rfl, .inl rfl⟩) (jr1 rfl (T.fr_range) (ja (jb .fdiv n.toCb.toCh (jv ⟨rfl, rfl, rfl⟩) jkI) ja0 rfl) rfl) (s1 (sa n.toCb.toCh ⟨rfl, rfl, .inl rfl⟩ (jb .mul n.toCb.toCh (jv ⟨rfl, rfl, rfl⟩) (jv ⟨rfl, rfl, rfl⟩)) rfl)) (fun _ => rfl))
  (s1 (si (jtc .eq n.toCb.toCh (jb .mod n.toCb.toCh (jv ⟨rfl, rfl, rfl⟩) jkI) jkI rfl) (s1 (sa n.toCb.toCh ⟨rfl, rfl, .inl rfl⟩ (jb .mul n.toCb.toCh (jv ⟨rfl, rfl, rfl⟩) (jv ⟨rfl, rfl, rfl⟩)) rfl)) s0))) (fun _ => rfl))
  (s1 (sr (jtp (ja (jv ⟨rfl, rfl, rfl⟩) (ja (jv ⟨rfl, rfl, rfl⟩) ja0 rfl) rfl))))))
theorem ok3 (FD : FnP K "check" st3 f fd) (T : Tx prg w K mg base ca C k) : FnOk prg w K mg base (L2.CX prg w) (k + 1) f fd p3 (FnS K ca 1 (runDef C gc W d3) false) :=
  def_ok (d := d3) FD fs3 rfl rfl fun cdv A outer s H E n =>
  (s1 (si (jtw (jwO (jtc .isin n.toCb.toCh (jv ⟨rfl, rfl, rfl⟩) (jtp (ja jkI (ja jkI ja0 rfl) rfl)) rfl) (jwO1 (jtc .ne n.toCb.toCh (jit n.toCb.toCh (jcl n.toCb T.cal_2 rfl (ja (jv ⟨rfl, rfl, rfl⟩) ja0 rfl) rfl rfl) jkI (fun _ _ => rfl)) jkI rfl)))) (s1 (srs n T.kls_0 rfl)) s0))
theorem ok4 (FD : FnP K "square_root" st4 f fd) (T : Tx prg w K mg base ca C k) : FnOk prg w K mg base (L2.CX prg w) (k + 1) f fd p4 (FnS K ca 1 (runDef C gc W d4) false) :=
  def_ok (d := d4) FD fs4 rfl rfl fun cdv A outer s H E n =>
  (sc (sp2 n.toCb rfl rfl (by decide) rfl rfl (ja jkI (ja (jb .add n.toCb.toCh (jv ⟨rfl, rfl, rfl⟩) jkI) ja0 rfl) rfl) rfl rfl)
  (sc (sw n (jtc .gt n.toCb.toCh (jb .sub n.toCb.toCh (jv ⟨rfl, rfl, rfl⟩) (jv ⟨rfl, rfl, rfl⟩)) jkI rfl) (sc (sa n.toCb.toCh ⟨rfl, rfl, .inl rfl⟩ (jb .fdiv n.toCb.toCh (jb .add n.toCb.toCh (jv ⟨rfl, rfl, rfl⟩) (jv ⟨rfl, rfl, rfl⟩)) jkI) rfl)
  (s1 (si (jtc .le n.toCb.toCh (jb .mul n.toCb.toCh (jv ⟨rfl, rfl, rfl⟩) (jv ⟨rfl, rfl, rfl⟩)) (jv ⟨rfl, rfl, rfl⟩) rfl) (s1 (sa n.toCb.toCh ⟨rfl, rfl, .inl rfl⟩ (jv ⟨rfl, rfl, rfl⟩) rfl)) (s1 (sa n.toCb.toCh ⟨rfl, rfl, .inl rfl⟩ (jv ⟨rfl, rfl, rfl⟩) rfl))))))
  (s1 (sr (jv ⟨rfl, rfl, rfl⟩)))))
theorem ok5 (FD : FnP K "is_square" st5 f fd) (T : Tx prg w K mg base ca C k) : FnOk prg w K mg base (L2.CX prg w) (k + 1) f fd p5 (FnS K ca 1 (runDef C gc W d5) false) :=
  def_ok (d := d5) FD fs5 rfl rfl fun cdv A outer s H E n =>
  (s1 (sr (jan (jc .ge n.toCb.toCh (jv ⟨rfl, rfl, rfl⟩) jkI rfl) (j1 (jc .eq n.toCb.toCh (jb .mul n.toCb.toCh (jcl n.toCb T.cal_4 rfl (ja (jv ⟨rfl, rfl, rfl⟩) ja0 rfl) rfl rfl) (jcl n.toCb T.cal_4 rfl (ja (jv ⟨rfl, rfl, rfl⟩) ja0 rfl) rfl rfl)) (jv ⟨rfl, rfl, rfl⟩) rfl)))))
theorem ok6 (FD : FnP K "fundamental_unit" st6 f fd) (T : Tx prg w K mg base ca C k) : FnOk prg w K mg base (L2.CX prg w) (k + 1) f fd p6 (FnS K ca 1 (runDef C gc W d6) false) :=
  def_ok (d := d6) FD fs6 rfl rfl fun cdv A outer s H E n =>
  (sc (sx (jcl n.toCb T.cal_3 rfl (ja (jv ⟨rfl, rfl, rfl⟩) ja0 rfl) rfl rfl) rfl)
  (sc (si (jtc .lt n.toCb.toCh (jv ⟨rfl, rfl, rfl⟩) jkI rfl) (s1 (srs n T.kls_0 rfl)) s0)
  (sc (sa n.toCb.toCh ⟨rfl, rfl, .inl rfl⟩ jkI rfl)
  (s1 (sw n (jt n.toCb.toCh jkB rfl (fun _ => rfl)) (sc (sf n tg_var (jg n.toCb.toCh ⟨rfl, rfl, .inl rfl⟩) (jis n.toCb.toCh (jtp (ja (jng jkI) (ja jkI ja0 rfl) rfl)) rfl) (s1 (si (jtc .eq n.toCb.toCh (jb .mod n.toCb.toCh (jv ⟨rfl, rfl, rfl⟩) jkI) jkI rfl) (sc (sa n.toCb.toCh ⟨rfl, rfl, .inl rfl⟩ (jb .add n.toCb.toCh (jb .mul n.toCb.toCh (jb .mul n.toCb.toCh (jv ⟨rfl, rfl, rfl⟩) (jv ⟨rfl, rfl, rfl⟩)) (jv ⟨rfl, rfl, rfl⟩)) (jb .mul n.toCb.toCh jkI (jv ⟨rfl, rfl, rfl⟩))) rfl)
  (s1 (si (jt n.toCb.toCh (jcl n.toCb T.cal_5 rfl (ja (jv ⟨rfl, rfl, rfl⟩) ja0 rfl) rfl rfl) rfl (fun _ => rfl)) (sc (sa n.toCb.toCh ⟨rfl, rfl, .inl rfl⟩ (jcl n.toCb T.cal_4 rfl (ja (jv ⟨rfl, rfl, rfl⟩) ja0 rfl) rfl rfl) rfl)
  (s1 (sr (jif (jtw (jwA (jtc .eq n.toCb.toCh (jb .mod n.toCb.toCh (jv ⟨rfl, rfl, rfl⟩) jkI) jkI rfl) (jwA1 (jtc .eq n.toCb.toCh (jb .mod n.toCb.toCh (jv ⟨rfl, rfl, rfl⟩) jkI) jkI rfl)))) (jtp (ja (jb .fdiv n.toCb.toCh (jv ⟨rfl, rfl, rfl⟩) jkI) (ja (jb .fdiv n.toCb.toCh (jv ⟨rfl, rfl, rfl⟩) jkI) (ja jkI ja0 rfl) rfl) rfl)) (jtp (ja (jv ⟨rfl, rfl, rfl⟩) (ja (jv ⟨rfl, rfl, rfl⟩) (ja jkI ja0 rfl) rfl) rfl)))))) s0))) (s1 (si (jt n.toCb.toCh (jcl n.toCb T.cal_5 rfl (ja (jb .add n.toCb.toCh (jb .mul n.toCb.toCh (jb .mul n.toCb.toCh (jv ⟨rfl, rfl, rfl⟩) (jv ⟨rfl, rfl, rfl⟩)) (jv ⟨rfl, rfl, rfl⟩)) (jv ⟨rfl, rfl, rfl⟩)) ja0 rfl) rfl rfl) rfl (fun _ => rfl)) (s1 (sr (jtp (ja (jcl n.toCb T.cal_4 rfl (ja (jb .add n.toCb.toCh (jb .mul n.toCb.toCh (jb .mul n.toCb.toCh (jv ⟨rfl, rfl, rfl⟩) (jv ⟨rfl, rfl, rfl⟩)) (jv ⟨rfl, rfl, rfl⟩)) (jv ⟨rfl, rfl, rfl⟩)) ja0 rfl) rfl rfl) (ja (jv ⟨rfl, rfl, rfl⟩) (ja jkI ja0 rfl) rfl) rfl)))) s0)))) (fun _ => rfl))
  (s1 (sau .add n.toCb.toCh ⟨rfl, rfl, .inl rfl⟩ jkI))))))))
theorem ok7 (FD : FnP K "continued_root" st7 f fd) (T : Tx prg w K mg base ca C k) : FnOk prg w K mg base (L2.CX prg w) (k + 1) f fd p7 (FnS K ca 1 (runDef C gc W d7) false) :=
  def_ok (d := d7) FD fs7 rfl rfl fun cdv A outer s H E n =>
  (sc (si (jtw (jwO (jt n.toCb.toCh (jcl n.toCb T.cal_5 rfl (ja (jv ⟨rfl, rfl, rfl⟩) ja0 rfl) rfl rfl) rfl (fun _ => rfl)) (jwO1 (jtc .lt n.toCb.toCh (jv ⟨rfl, rfl, rfl⟩) jkI rfl)))) (s1 (srs n T.kls_0 rfl)) s0)
  (sc (sa n.toCb.toCh ⟨rfl, rfl, .inl rfl⟩ (jcl n.toCb T.cal_4 rfl (ja (jv ⟨rfl, rfl, rfl⟩) ja0 rfl) rfl rfl) rfl)
  (sc (spT n.toCb (by decide) (jgn (jg n.toCb.toCh ⟨rfl, rfl, .inl rfl⟩) (jgn (jg n.toCb.toCh ⟨rfl, rfl, .inl rfl⟩) (jgn (jg n.toCb.toCh ⟨rfl, rfl, .inl rfl⟩) (jgn (jg n.toCb.toCh ⟨rfl, rfl, .inl rfl⟩) jgn0 rfl) rfl) rfl) rfl) rfl rfl (ja (jls ja0) (ja jkI (ja jkI (ja (jv ⟨rfl, rfl, rfl⟩) ja0 rfl) rfl) rfl) rfl) rfl rfl rfl)
  (sc (sw n (jtc .ne n.toCb.toCh (jv ⟨rfl, rfl, rfl⟩) (jb .mul n.toCb.toCh jkI (jv ⟨rfl, rfl, rfl⟩)) rfl) (sc (sa n.toCb.toCh ⟨rfl, rfl, .inl rfl⟩ (jb .sub n.toCb.toCh (jb .mul n.toCb.toCh (jv ⟨rfl, rfl, rfl⟩) (jv ⟨rfl, rfl, rfl⟩)) (jv ⟨rfl, rfl, rfl⟩)) rfl)
  (sc (sa n.toCb.toCh ⟨rfl, rfl, .inl rfl⟩ (jb .fdiv n.toCb.toCh (jb .sub n.toCb.toCh (jv ⟨rfl, rfl, rfl⟩) (jb .mul n.toCb.toCh (jv ⟨rfl, rfl, rfl⟩) (jv ⟨rfl, rfl, rfl⟩))) (jv ⟨rfl, rfl, rfl⟩)) rfl)
  (sc (sa n.toCb.toCh ⟨rfl, rfl, .inl rfl⟩ (jb .fdiv n.toCb.toCh (jb .add n.toCb.toCh (jv ⟨rfl, rfl, rfl⟩) (jv ⟨rfl, rfl, rfl⟩)) (jv ⟨rfl, rfl, rfl⟩)) rfl)
  (s1 (sx (sap n.toCb.toCh ⟨rfl, rfl, rfl⟩ (jv ⟨rfl, rfl, rfl⟩) rfl rfl rfl) rfl))))))
  (s1 (sr (jtp (ja (jv ⟨rfl, rfl, rfl⟩) (ja (jbi .tuple n.toCb rfl T.fr_tuple (ja (jv ⟨rfl, rfl, rfl⟩) ja0 rfl) rfl rfl) ja0 rfl) rfl))))))))
theorem ok8 (FD : FnP K "pell" st8 f fd) (T : Tx prg w K mg base ca C k) : FnOk prg w K mg base (L2.CX prg w) (k + 1) f fd p8 (FnS K ca 1 (runDef C gc W d8) false) :=
  def_ok (d := d8) FD fs8 rfl rfl fun cdv A outer s H E n =>
  (sc (sT (tgT (tgs_cons tg_var (tgs_cons tg_var tgs_nil)) rfl) (jgT n.toCb (jgs (jg n.toCb.toCh ⟨rfl, rfl, .inl rfl⟩) (jgs (jg n.toCb.toCh ⟨rfl, rfl, .inl rfl⟩) jgs0 rfl) rfl) rfl rfl) (jcl n.toCb T.cal_7 rfl (ja (jv ⟨rfl, rfl, rfl⟩) ja0 rfl) rfl rfl) rfl rfl rfl)
  (sc (sa n.toCb.toCh ⟨rfl, rfl, .inl rfl⟩ (jif (jtc .eq n.toCb.toCh (jb .mod n.toCb.toCh (jbi .len n.toCb rfl T.fr_len (ja (jv ⟨rfl, rfl, rfl⟩) ja0 rfl) rfl rfl) jkI) jkI rfl) (jbi .len n.toCb rfl T.fr_len (ja (jv ⟨rfl, rfl, rfl⟩) ja0 rfl) rfl rfl) (jb .mul n.toCb.toCh jkI (jbi .len n.toCb rfl T.fr_len (ja (jv ⟨rfl, rfl, rfl⟩) ja0 rfl) rfl rfl))) rfl)
  (sc (sa n.toCb.toCh ⟨rfl, rfl, .inl rfl⟩ (jb .add n.toCb.toCh (jls (ja (jv ⟨rfl, rfl, rfl⟩) ja0 rfl)) (jsl n.toCb.toCh (jb .mul n.toCb.toCh (jbi .list n.toCb rfl T.fr_list (ja (jv ⟨rfl, rfl, rfl⟩) ja0 rfl) rfl rfl) jkI) jo0 (jo (jb .sub n.toCb.toCh (jv ⟨rfl, rfl, rfl⟩) jkI) rfl))) rfl)
  (sc (spT n.toCb (by decide) (jgn (jg n.toCb.toCh ⟨rfl, rfl, .inl rfl⟩) (jgn (jg n.toCb.toCh ⟨rfl, rfl, .inl rfl⟩) (jgn (jg n.toCb.toCh ⟨rfl, rfl, .inl rfl⟩) (jgn (jg n.toCb.toCh ⟨rfl, rfl, .inl rfl⟩) jgn0 rfl) rfl) rfl) rfl) rfl rfl (ja (jit n.toCb.toCh (jv ⟨rfl, rfl, rfl⟩) jkI (fun _ _ => rfl)) (ja jkI (ja jkI (ja jkI ja0 rfl) rfl) rfl) rfl) rfl rfl rfl)
  (sc (sf n tg_var (jg n.toCb.toCh ⟨rfl, rfl, .inl rfl⟩) (jis n.toCb.toCh (jsl n.toCb.toCh (jv ⟨rfl, rfl, rfl⟩) (jo jkI rfl) jo0) rfl) (sc (sp2 n.toCb rfl rfl (by decide) rfl rfl (ja (jb .add n.toCb.toCh (jb .mul n.toCb.toCh (jv ⟨rfl, rfl, rfl⟩) (jv ⟨rfl, rfl, rfl⟩)) (jv ⟨rfl, rfl, rfl⟩)) (ja (jv ⟨rfl, rfl, rfl⟩) ja0 rfl) rfl) rfl rfl)
  (s1 (sp2 n.toCb rfl rfl (by decide) rfl rfl (ja (jb .add n.toCb.toCh (jb .mul n.toCb.toCh (jv ⟨rfl, rfl, rfl⟩) (jv ⟨rfl, rfl, rfl⟩)) (jv ⟨rfl, rfl, rfl⟩)) (ja (jv ⟨rfl, rfl, rfl⟩) ja0 rfl) rfl) rfl rfl))) (fun _ => rfl))
  (s1 (sr (jtp (ja (jv ⟨rfl, rfl, rfl⟩) (ja (jv ⟨rfl, rfl, rfl⟩) ja0 rfl) rfl)))))))))
theorem ok9 (FD : FnP K "_law_take" st9 f fd) (T : Tx prg w K mg base ca C k) : FnOk prg w K mg base (L2.CX prg w) (k + 1) f fd p9 (FnS K ca 2 (runDef C gc W d9) true) :=
  def_ok (d := d9) FD fs9 rfl rfl fun cdv A outer s H E n =>
  (sc (si (jtw (jwA (jtc .eq n.toCb.toCh (jit n.toCb.toCh (jv ⟨rfl, rfl, rfl⟩) jkS (fun _ _ => rfl)) jkI rfl) (jwA1 (jtc .lt n.toCb.toCh (jit n.toCb.toCh (jv ⟨rfl, rfl, rfl⟩) jkS (fun _ _ => rfl)) (jbi .len n.toCb rfl T.fr_len (ja (jit n.toCb.toCh (jv ⟨rfl, rfl, rfl⟩) jkS (fun _ _ => rfl)) ja0 rfl) rfl rfl) rfl)))) (sc (sput n.toCb.toCh ⟨rfl, rfl, rfl⟩ jkS (jit n.toCb.toCh (jit n.toCb.toCh (jv ⟨rfl, rfl, rfl⟩) jkS (fun _ _ => rfl)) (jit n.toCb.toCh (jv ⟨rfl, rfl, rfl⟩) jkS (fun _ _ => rfl)) (fun _ _ => rfl)) rfl rfl rfl (fun _ => rfl))
  (s1 (sput n.toCb.toCh ⟨rfl, rfl, rfl⟩ jkS (jb .add n.toCb.toCh (jit n.toCb.toCh (jv ⟨rfl, rfl, rfl⟩) jkS (fun _ _ => rfl)) jkI) rfl rfl rfl (fun _ => rfl)))) s0)
  (sc (si (jtc .gt n.toCb.toCh (jit n.toCb.toCh (jv ⟨rfl, rfl, rfl⟩) jkS (fun _ _ => rfl)) jkI rfl) (sc (sa n.toCb.toCh ⟨rfl, rfl, .inl rfl⟩ (jb .mod n.toCb.toCh (jbi .int n.toCb rfl T.fr_int (ja (jit n.toCb.toCh (jv ⟨rfl, rfl, rfl⟩) jkS (fun _ _ => rfl)) ja0 rfl) rfl rfl) (jv ⟨rfl, rfl, rfl⟩)) rfl)
  (sc (sput n.toCb.toCh ⟨rfl, rfl, rfl⟩ jkS (jb .fdiv n.toCb.toCh (jit n.toCb.toCh (jv ⟨rfl, rfl, rfl⟩) jkS (fun _ _ => rfl)) (jv ⟨rfl, rfl, rfl⟩)) rfl rfl rfl (fun _ => rfl))
  (s1 (sr (jv ⟨rfl, rfl, rfl⟩))))) s0)
  (sc (sput n.toCb.toCh ⟨rfl, rfl, rfl⟩ jkS (jb .add n.toCb.toCh (jit n.toCb.toCh (jv ⟨rfl, rfl, rfl⟩) jkS (fun _ _ => rfl)) jkI) rfl rfl rfl (fun _ => rfl))
  (sc (sa n.toCb.toCh ⟨rfl, rfl, .inl rfl⟩ (jb .mod n.toCb.toCh (jbi .int n.toCb rfl T.fr_int (ja (jb .add n.toCb.toCh (jb .mul n.toCb.toCh (jit n.toCb.toCh (jv ⟨rfl, rfl, rfl⟩) jkS (fun _ _ => rfl)) jkI) (jb .mul n.toCb.toCh (jit n.toCb.toCh (jv ⟨rfl, rfl, rfl⟩) jkS (fun _ _ => rfl)) jkI)) ja0 rfl) rfl rfl) jkI) rfl)
  (sc (sa n.toCb.toCh ⟨rfl, rfl, .inl rfl⟩ (jb .mod n.toCb.toCh (jbi .int n.toCb rfl T.fr_int (ja (jb .add n.toCb.toCh (jb .add n.toCb.toCh (jb .mul n.toCb.toCh (jv ⟨rfl, rfl, rfl⟩) (jv ⟨rfl, rfl, rfl⟩)) (jb .mul n.toCb.toCh (jit n.toCb.toCh (jv ⟨rfl, rfl, rfl⟩) jkS (fun _ _ => rfl)) jkI)) jkI) ja0 rfl) rfl rfl) jkI) rfl)
  (s1 (sr (jb .mod n.toCb.toCh (jbi .int n.toCb rfl T.fr_int (ja (jv ⟨rfl, rfl, rfl⟩) ja0 rfl) rfl rfl) (jv ⟨rfl, rfl, rfl⟩)))))))))
theorem ok10 (FD : FnP K "unit_norm" st10 f fd) (T : Tx prg w K mg base ca C k) : FnOk prg w K mg base (L2.CX prg w) (k + 1) f fd p10 (FnS K ca 1 (runDef C gc W d10) false) :=
  def_ok (d := d10) FD fs10 rfl rfl fun cdv A outer s H E n =>
  (sc (sT (tgT (tgs_cons tg_var (tgs_cons tg_var (tgs_cons tg_var tgs_nil))) rfl) (jgT n.toCb (jgs (jg n.toCb.toCh ⟨rfl, rfl, .inl rfl⟩) (jgs (jg n.toCb.toCh ⟨rfl, rfl, .inl rfl⟩) (jgs (jg n.toCb.toCh ⟨rfl, rfl, .inl rfl⟩) jgs0 rfl) rfl) rfl) rfl rfl) (jcl n.toCb T.cal_6 rfl (ja (jv ⟨rfl, rfl, rfl⟩) ja0 rfl) rfl rfl) rfl rfl rfl)
  (s1 (sr (jb .fdiv n.toCb.toCh (jb .sub n.toCb.toCh (jb .mul n.toCb.toCh (jv ⟨rfl, rfl, rfl⟩) (jv ⟨rfl, rfl, rfl⟩)) (jb .mul n.toCb.toCh (jb .mul n.toCb.toCh (jv ⟨rfl, rfl, rfl⟩) (jv ⟨rfl, rfl, rfl⟩)) (jv ⟨rfl, rfl, rfl⟩))) (jb .mul n.toCb.toCh (jv ⟨rfl, rfl, rfl⟩) (jv ⟨rfl, rfl, rfl⟩))))))
theorem ok11 (FD : FnP K "_law_root" st11 f fd) (T : Tx prg w K mg base ca C k) : FnOk prg w K mg base (L2.CX prg w) (k + 1) f fd p11 (FnS K ca 1 (runDef C gc W d11) false) :=
  def_ok (d := d11) FD fs11 rfl rfl fun cdv A outer s H E n =>
  (sc (sa n.toCb.toCh ⟨rfl, rfl, .inl rfl⟩ jkI rfl)
  (sc (sw n (jtc .le n.toCb.toCh (jb .mul n.toCb.toCh (jb .add n.toCb.toCh (jv ⟨rfl, rfl, rfl⟩) jkI) (jb .add n.toCb.toCh (jv ⟨rfl, rfl, rfl⟩) jkI)) (jv ⟨rfl, rfl, rfl⟩) rfl) (s1 (sa n.toCb.toCh ⟨rfl, rfl, .inl rfl⟩ (jb .add n.toCb.toCh (jv ⟨rfl, rfl, rfl⟩) jkI) rfl)))
  (s1 (sr (jv ⟨rfl, rfl, rfl⟩)))))
theorem ok12 (FD : FnP K "_law_root_fast" st12 f fd) (T : Tx prg w K mg base ca C k) : FnOk prg w K mg base (L2.CX prg w) (k + 1) f fd p12 (FnS K ca 1 (runDef C gc W d12) false) :=
  def_ok (d := d12) FD fs12 rfl rfl fun cdv A outer s H E n =>
  (sc (sp2 n.toCb rfl rfl (by decide) rfl rfl (ja jkI (ja (jb .add n.toCb.toCh (jv ⟨rfl, rfl, rfl⟩) jkI) ja0 rfl) rfl) rfl rfl)
  (sc (sw n (jtc .gt n.toCb.toCh (jb .sub n.toCb.toCh (jv ⟨rfl, rfl, rfl⟩) (jv ⟨rfl, rfl, rfl⟩)) jkI rfl) (sc (sa n.toCb.toCh ⟨rfl, rfl, .inl rfl⟩ (jb .fdiv n.toCb.toCh (jb .add n.toCb.toCh (jv ⟨rfl, rfl, rfl⟩) (jv ⟨rfl, rfl, rfl⟩)) jkI) rfl)
  (s1 (si (jtc .le n.toCb.toCh (jb .mul n.toCb.toCh (jv ⟨rfl, rfl, rfl⟩) (jv ⟨rfl, rfl, rfl⟩)) (jv ⟨rfl, rfl, rfl⟩) rfl) (s1 (sa n.toCb.toCh ⟨rfl, rfl, .inl rfl⟩ (jv ⟨rfl, rfl, rfl⟩) rfl)) (s1 (sa n.toCb.toCh ⟨rfl, rfl, .inl rfl⟩ (jv ⟨rfl, rfl, rfl⟩) rfl))))))
  (s1 (sr (jv ⟨rfl, rfl, rfl⟩)))))
theorem ok13 (FD : FnP K "law" st13 f fd) (T : Tx prg w K mg base ca C k) : FnOk prg w K mg base CX0 (k + 1) f fd p13 (fun vs H Q _ => FnS K ca 1 (runDef C gc W d13) false vs H Q fun _ _ _ => False) :=
  def_ok0 (d := d13) FD fs13 rfl rfl fun cdv A outer s H E n =>
  (sc (sa n.toCb.toCh ⟨rfl, rfl, .inl rfl⟩ (jcl n.toCb T.cal_0 rfl (ja (jv ⟨rfl, rfl, rfl⟩) ja0 rfl) rfl rfl) rfl)
  (sc (sa n.toCb.toCh ⟨rfl, rfl, .inl rfl⟩ (jls (ja jkI (ja jkI (ja jkI (ja jkI (ja jkI (ja jkI (ja jkI (ja jkI (ja jkI (ja jkI (ja jkI (ja jkI (ja jkI (ja jkI (ja jkI (ja jkI (ja jkI (ja jkI (ja jkI (ja jkI (ja jkI ja0 rfl) rfl) rfl) rfl) rfl) rfl) rfl) rfl) rfl) rfl) rfl) rfl) rfl) rfl) rfl) rfl) rfl) rfl) rfl) rfl) rfl)) rfl)
  (sc (sa n.toCb.toCh ⟨rfl, rfl, .inl rfl⟩ (jit n.toCb.toCh (jv ⟨rfl, rfl, rfl⟩) (jct n.toCb T.cal_9 rfl ⟨rfl, rfl, rfl⟩ (ja jkI ja0 rfl) rfl) (fun _ _ => rfl)) rfl)
  (sc (sT (tgT (tgs_cons tg_var (tgs_cons tg_var (tgs_cons tg_var tgs_nil))) rfl) (jgT n.toCb (jgs (jg n.toCb.toCh ⟨rfl, rfl, .inl rfl⟩) (jgs (jg n.toCb.toCh ⟨rfl, rfl, .inl rfl⟩) (jgs (jg n.toCb.toCh ⟨rfl, rfl, .inl rfl⟩) jgs0 rfl) rfl) rfl) rfl rfl) (jcl n.toCb T.cal_6 rfl (ja (jv ⟨rfl, rfl, rfl⟩) ja0 rfl) rfl rfl) rfl rfl rfl)
  (sc (sa n.toCb.toCh ⟨rfl, rfl, .inl rfl⟩ (jb .sub n.toCb.toCh (jb .mul n.toCb.toCh (jv ⟨rfl, rfl, rfl⟩) (jv ⟨rfl, rfl, rfl⟩)) (jb .mul n.toCb.toCh (jb .mul n.toCb.toCh (jv ⟨rfl, rfl, rfl⟩) (jv ⟨rfl, rfl, rfl⟩)) (jv ⟨rfl, rfl, rfl⟩))) rfl)
  (sc (si (jtw (jwO (jtc .notin n.toCb.toCh (jv ⟨rfl, rfl, rfl⟩) (jtp (ja jkI (ja jkI ja0 rfl) rfl)) rfl) (jwO (jtc .notin n.toCb.toCh (jv ⟨rfl, rfl, rfl⟩) (jtp (ja (jb .mul n.toCb.toCh (jv ⟨rfl, rfl, rfl⟩) (jv ⟨rfl, rfl, rfl⟩)) (ja (jb .mul n.toCb.toCh (jng (jv ⟨rfl, rfl, rfl⟩)) (jv ⟨rfl, rfl, rfl⟩)) ja0 rfl) rfl)) rfl) (jwO (jtc .lt n.toCb.toCh (jv ⟨rfl, rfl, rfl⟩) jkI rfl) (jwO (jtc .lt n.toCb.toCh (jv ⟨rfl, rfl, rfl⟩) jkI rfl) (jwO (jtw (jwA (jtc .eq n.toCb.toCh (jv ⟨rfl, rfl, rfl⟩) jkI rfl) (jwA1 (jtw (jwO (jtc .ne n.toCb.toCh (jb .mod n.toCb.toCh (jv ⟨rfl, rfl, rfl⟩) jkI) jkI rfl) (jwO (jtc .eq n.toCb.toCh (jb .mod n.toCb.toCh (jv ⟨rfl, rfl, rfl⟩) jkI) jkI rfl) (jwO1 (jtc .eq n.toCb.toCh (jb .mod n.toCb.toCh (jv ⟨rfl, rfl, rfl⟩) jkI) jkI rfl)))))))) (jwO1 (jtc .ne n.toCb.toCh (jcl n.toCb T.cal_10 rfl (ja (jv ⟨rfl, rfl, rfl⟩) ja0 rfl) rfl rfl) (jb .fdiv n.toCb.toCh (jv ⟨rfl, rfl, rfl⟩) (jb .mul n.toCb.toCh (jv ⟨rfl, rfl, rfl⟩) (jv ⟨rfl, rfl, rfl⟩))) rfl)))))))) (s1 (sr jkB)) s0)
  (sc (sa n.toCb.toCh ⟨rfl, rfl, .inl rfl⟩ (jb .fdiv n.toCb.toCh jkI (jv ⟨rfl, rfl, rfl⟩)) rfl)
  (sc (sf n tg_var (jg n.toCb.toCh ⟨rfl, rfl, .inl rfl⟩) (jr2 rfl (T.fr_range) (ja jkI (ja (jb .mul n.toCb.toCh (jv ⟨rfl, rfl, rfl⟩) (jv ⟨rfl, rfl, rfl⟩)) ja0 rfl) rfl) rfl rfl) (s1 (sf n tg_var (jg n.toCb.toCh ⟨rfl, rfl, .inl rfl⟩) (jis n.toCb.toCh (jtp (ja (jng jkI) (ja jkI ja0 rfl) rfl)) rfl) (sc (sa n.toCb.toCh ⟨rfl, rfl, .inl rfl⟩ (jb .add n.toCb.toCh (jb .mul n.toCb.toCh (jb .mul n.toCb.toCh (jv ⟨rfl, rfl, rfl⟩) (jv ⟨rfl, rfl, rfl⟩)) (jv ⟨rfl, rfl, rfl⟩)) (jv ⟨rfl, rfl, rfl⟩)) rfl)
  (s1 (si (jtw (jwA (jtc .gt n.toCb.toCh (jv ⟨rfl, rfl, rfl⟩) jkI rfl) (jwA1 (jtc .eq n.toCb.toCh (jb .mul n.toCb.toCh (jcl n.toCb T.cal_11 rfl (ja (jv ⟨rfl, rfl, rfl⟩) ja0 rfl) rfl rfl) (jcl n.toCb T.cal_11 rfl (ja (jv ⟨rfl, rfl, rfl⟩) ja0 rfl) rfl rfl)) (jv ⟨rfl, rfl, rfl⟩) rfl)))) (sc (sa n.toCb.toCh ⟨rfl, rfl, .inl rfl⟩ (jcl n.toCb T.cal_11 rfl (ja (jv ⟨rfl, rfl, rfl⟩) ja0 rfl) rfl rfl) rfl)
  (s1 (si (jtw (jwO (jtw (jwA (jtc .eq n.toCb.toCh (jb .mod n.toCb.toCh (jv ⟨rfl, rfl, rfl⟩) jkI) jkI rfl) (jwA1 (jtc .eq n.toCb.toCh (jb .mod n.toCb.toCh (jb .sub n.toCb.toCh (jv ⟨rfl, rfl, rfl⟩) (jv ⟨rfl, rfl, rfl⟩)) jkI) jkI rfl)))) (jwO1 (jtw (jwA (jtc .eq n.toCb.toCh (jb .mod n.toCb.toCh (jv ⟨rfl, rfl, rfl⟩) jkI) jkI rfl) (jwA1 (jtc .eq n.toCb.toCh (jb .mod n.toCb.toCh (jv ⟨rfl, rfl, rfl⟩) jkI) jkI rfl))))))) (s1 (sr jkB)) s0))) s0))) (fun _ => rfl))) (fun _ => rfl))
  (sc (sa n.toCb.toCh ⟨rfl, rfl, .inl rfl⟩ (jb .add n.toCb.toCh jkI (jct n.toCb T.cal_9 rfl ⟨rfl, rfl, rfl⟩ (ja jkI ja0 rfl) rfl)) rfl)
  (sc (si (jtc .eq n.toCb.toCh (jb .mul n.toCb.toCh (jcl n.toCb T.cal_11 rfl (ja (jv ⟨rfl, rfl, rfl⟩) ja0 rfl) rfl rfl) (jcl n.toCb T.cal_11 rfl (ja (jv ⟨rfl, rfl, rfl⟩) ja0 rfl) rfl rfl)) (jv ⟨rfl, rfl, rfl⟩) rfl) (s1 (stry n ⟨rfl, T.kls_0.db, .inl T.nam_0⟩ ((allc T.exm_0_0 all0)) all0 (fun _ _ _ n3 => (sc (sx (jcl n3.toCb T.cal_7 rfl (ja (jv ⟨rfl, rfl, rfl⟩) ja0 rfl) rfl rfl) rfl)
  (s1 (sr jkB)))) (fun _ _ _ h4 => (s1 (sr jkB))))) s0)
  (sc (sT (tgT (tgs_cons tg_var (tgs_cons tg_var tgs_nil)) rfl) (jgT n.toCb (jgs (jg n.toCb.toCh ⟨rfl, rfl, .inl rfl⟩) (jgs (jg n.toCb.toCh ⟨rfl, rfl, .inl rfl⟩) jgs0 rfl) rfl) rfl rfl) (jcl n.toCb T.cal_7 rfl (ja (jv ⟨rfl, rfl, rfl⟩) ja0 rfl) rfl rfl) rfl rfl rfl)
  (sc (si (jtw (jwO (jtc .ne n.toCb.toCh (jv ⟨rfl, rfl, rfl⟩) (jcl n.toCb T.cal_11 rfl (ja (jv ⟨rfl, rfl, rfl⟩) ja0 rfl) rfl rfl) rfl) (jwO (jtc .ne n.toCb.toCh (jit n.toCb.toCh (jv ⟨rfl, rfl, rfl⟩) (jng jkI) (fun _ _ => rfl)) (jb .mul n.toCb.toCh jkI (jv ⟨rfl, rfl, rfl⟩)) rfl) (jwO1 (jtc .ne n.toCb.toCh (jbi .list n.toCb rfl T.fr_list (ja (jsl n.toCb.toCh (jv ⟨rfl, rfl, rfl⟩) jo0 (jo (jng jkI) rfl)) ja0 rfl) rfl rfl) (jrv n.toCb.toCh (jbi .list n.toCb rfl T.fr_list (ja (jsl n.toCb.toCh (jv ⟨rfl, rfl, rfl⟩) jo0 (jo (jng jkI) rfl)) ja0 rfl) rfl rfl)) rfl))))) (s1 (sr jkB)) s0)
  (sc (spT n.toCb (by decide) (jgn (jg n.toCb.toCh ⟨rfl, rfl, .inl rfl⟩) (jgn (jg n.toCb.toCh ⟨rfl, rfl, .inl rfl⟩) jgn0 rfl) rfl) rfl rfl (ja jkI (ja jkI ja0 rfl) rfl) rfl rfl rfl)
  (sc (sa n.toCb.toCh ⟨rfl, rfl, .inl rfl⟩ (jls ja0) rfl)
  (sc (sf n tg_var (jg n.toCb.toCh ⟨rfl, rfl, .inl rfl⟩) (jr1 rfl (T.fr_range) (ja (jb .add n.toCb.toCh (jbi .len n.toCb rfl T.fr_len (ja (jv ⟨rfl, rfl, rfl⟩) ja0 rfl) rfl rfl) jkI) ja0 rfl) rfl) (sc (sa n.toCb.toCh ⟨rfl, rfl, .inl rfl⟩ (jb .fdiv n.toCb.toCh (jb .add n.toCb.toCh (jcl n.toCb T.cal_11 rfl (ja (jv ⟨rfl, rfl, rfl⟩) ja0 rfl) rfl rfl) (jv ⟨rfl, rfl, rfl⟩)) (jv ⟨rfl, rfl, rfl⟩)) rfl)
  (sc (sx (sap n.toCb.toCh ⟨rfl, rfl, rfl⟩ (jv ⟨rfl, rfl, rfl⟩) rfl rfl rfl) rfl)
  (sc (sa n.toCb.toCh ⟨rfl, rfl, .inl rfl⟩ (jb .sub n.toCb.toCh (jb .mul n.toCb.toCh (jv ⟨rfl, rfl, rfl⟩) (jv ⟨rfl, rfl, rfl⟩)) (jv ⟨rfl, rfl, rfl⟩)) rfl)
  (s1 (sa n.toCb.toCh ⟨rfl, rfl, .inl rfl⟩ (jb .fdiv n.toCb.toCh (jb .sub n.toCb.toCh (jv ⟨rfl, rfl, rfl⟩) (jb .mul n.toCb.toCh (jv ⟨rfl, rfl, rfl⟩) (jv ⟨rfl, rfl, rfl⟩))) (jv ⟨rfl, rfl, rfl⟩)) rfl))))) (fun _ => rfl))
  (sc (si (jtc .ne n.toCb.toCh (jv ⟨rfl, rfl, rfl⟩) (jb .add n.toCb.toCh (jls (ja (jv ⟨rfl, rfl, rfl⟩) ja0 rfl)) (jbi .list n.toCb rfl T.fr_list (ja (jv ⟨rfl, rfl, rfl⟩) ja0 rfl) rfl rfl)) rfl) (s1 (sr jkB)) s0)
  (sc (sT (tgT (tgs_cons tg_var (tgs_cons tg_var tgs_nil)) rfl) (jgT n.toCb (jgs (jg n.toCb.toCh ⟨rfl, rfl, .inl rfl⟩) (jgs (jg n.toCb.toCh ⟨rfl, rfl, .inl rfl⟩) jgs0 rfl) rfl) rfl rfl) (jcl n.toCb T.cal_8 rfl (ja (jv ⟨rfl, rfl, rfl⟩) ja0 rfl) rfl rfl) rfl rfl rfl)
  (sc (si (jtw (jwO (jtc .ne n.toCb.toCh (jb .sub n.toCb.toCh (jb .mul n.toCb.toCh (jv ⟨rfl, rfl, rfl⟩) (jv ⟨rfl, rfl, rfl⟩)) (jb .mul n.toCb.toCh (jb .mul n.toCb.toCh (jv ⟨rfl, rfl, rfl⟩) (jv ⟨rfl, rfl, rfl⟩)) (jv ⟨rfl, rfl, rfl⟩))) jkI rfl) (jwO (jtc .lt n.toCb.toCh (jv ⟨rfl, rfl, rfl⟩) jkI rfl) (jwO1 (jtc .lt n.toCb.toCh (jv ⟨rfl, rfl, rfl⟩) jkI rfl))))) (s1 (sr jkB)) s0)
  (sc (sf n tg_var (jg n.toCb.toCh ⟨rfl, rfl, .inl rfl⟩) (jr2 rfl (T.fr_range) (ja jkI (ja (jbi .min2 n.toCb rfl T.fr_min (ja (jv ⟨rfl, rfl, rfl⟩) (ja jkI ja0 rfl) rfl) rfl rfl) ja0 rfl) rfl) rfl rfl) (sc (sa n.toCb.toCh ⟨rfl, rfl, .inl rfl⟩ (jb .add n.toCb.toCh (jb .mul n.toCb.toCh (jb .mul n.toCb.toCh (jv ⟨rfl, rfl, rfl⟩) (jv ⟨rfl, rfl, rfl⟩)) (jv ⟨rfl, rfl, rfl⟩)) jkI) rfl)
  (s1 (si (jtc .eq n.toCb.toCh (jb .mul n.toCb.toCh (jcl n.toCb T.cal_12 rfl (ja (jv ⟨rfl, rfl, rfl⟩) ja0 rfl) rfl rfl) (jcl n.toCb T.cal_12 rfl (ja (jv ⟨rfl, rfl, rfl⟩) ja0 rfl) rfl rfl)) (jv ⟨rfl, rfl, rfl⟩) rfl) (s1 (sr jkB)) s0))) (fun _ => rfl))
  (sc (sa n.toCb.toCh ⟨rfl, rfl, .inl rfl⟩ jkI rfl)
  (sc (sf n tg_var (jg n.toCb.toCh ⟨rfl, rfl, .inl rfl⟩) (jis n.toCb.toCh (jtp (ja (jng jkI) (ja jkI (ja jkI ja0 rfl) rfl) rfl)) rfl) (s1 (stry n ⟨rfl, T.kls_0.db, .inl T.nam_0⟩ ((allc T.exm_0_0 all0)) all0 (fun _ _ _ n1 => (s1 (sx (jcl n1.toCb T.cal_6 rfl (ja (jv ⟨rfl, rfl, rfl⟩) ja0 rfl) rfl rfl) rfl))) (fun _ _ _ h2 => (s1 (sa h2 ⟨rfl, rfl, .inl rfl⟩ (jb .add h2 (jv ⟨rfl, rfl, rfl⟩) jkI) rfl))))) (fun _ => rfl))
  (s1 (sr (jc .eq n.toCb.toCh (jv ⟨rfl, rfl, rfl⟩) jkI rfl))))))))))))))))))))))))
end
theorem bd0 {K : PySem.W.Frag} {f : Addr} {fd : FuncData} (FD : FnP K "_law_tape" st0 f fd) : Binds K fd p0 [] := FD.bindsN fun _ _ _ _ _ _ us hl => match us, hl with | [_], _ => rfl
theorem bd1 {K : PySem.W.Frag} {f : Addr} {fd : FuncData} (FD : FnP K "factored" st1 f fd) : Binds K fd p1 [] := FD.bindsN fun _ _ _ _ _ _ us hl => match us, hl with | [_], _ => rfl
theorem bd2 {K : PySem.W.Frag} {f : Addr} {fd : FuncData} (FD : FnP K "square_free" st2 f fd) : Binds K fd p2 [] := FD.bindsN fun _ _ _ _ _ _ us hl => match us, hl with | [_], _ => rfl
theorem bd3 {K : PySem.W.Frag} {f : Addr} {fd : FuncData} (FD : FnP K "check" st3 f fd) : Binds K fd p3 [] := FD.bindsN fun _ _ _ _ _ _ us hl => match us, hl with | [_], _ => rfl
theorem bd4 {K : PySem.W.Frag} {f : Addr} {fd : FuncData} (FD : FnP K "square_root" st4 f fd) : Binds K fd p4 [] := FD.bindsN fun _ _ _ _ _ _ us hl => match us, hl with | [_], _ => rfl
theorem bd5 {K : PySem.W.Frag} {f : Addr} {fd : FuncData} (FD : FnP K "is_square" st5 f fd) : Binds K fd p5 [] := FD.bindsN fun _ _ _ _ _ _ us hl => match us, hl with | [_], _ => rfl
theorem bd6 {K : PySem.W.Frag} {f : Addr} {fd : FuncData} (FD : FnP K "fundamental_unit" st6 f fd) : Binds K fd p6 [] := FD.bindsN fun _ _ _ _ _ _ us hl => match us, hl with | [_], _ => rfl
theorem bd7 {K : PySem.W.Frag} {f : Addr} {fd : FuncData} (FD : FnP K "continued_root" st7 f fd) : Binds K fd p7 [] := FD.bindsN fun _ _ _ _ _ _ us hl => match us, hl with | [_], _ => rfl
theorem bd8 {K : PySem.W.Frag} {f : Addr} {fd : FuncData} (FD : FnP K "pell" st8 f fd) : Binds K fd p8 [] := FD.bindsN fun _ _ _ _ _ _ us hl => match us, hl with | [_], _ => rfl
theorem bd9 {K : PySem.W.Frag} {f : Addr} {fd : FuncData} (FD : FnP K "_law_take" st9 f fd) : Binds K fd p9 [] := FD.bindsN fun _ _ _ _ _ _ us hl => match us, hl with | [_, _], _ => rfl
theorem bd10 {K : PySem.W.Frag} {f : Addr} {fd : FuncData} (FD : FnP K "unit_norm" st10 f fd) : Binds K fd p10 [] := FD.bindsN fun _ _ _ _ _ _ us hl => match us, hl with | [_], _ => rfl
theorem bd11 {K : PySem.W.Frag} {f : Addr} {fd : FuncData} (FD : FnP K "_law_root" st11 f fd) : Binds K fd p11 [] := FD.bindsN fun _ _ _ _ _ _ us hl => match us, hl with | [_], _ => rfl
theorem bd12 {K : PySem.W.Frag} {f : Addr} {fd : FuncData} (FD : FnP K "_law_root_fast" st12 f fd) : Binds K fd p12 [] := FD.bindsN fun _ _ _ _ _ _ us hl => match us, hl with | [_], _ => rfl
theorem bd13 {K : PySem.W.Frag} {f : Addr} {fd : FuncData} (FD : FnP K "law" st13 f fd) : Binds K fd p13 [] := FD.bindsN fun _ _ _ _ _ _ us hl => match us, hl with | [_], _ => rfl
structure Fs (K : PySem.W.Frag) (mg : Str → Option Value) : Prop where
  f_0 : ∃ a fd, FnP K "_law_tape" st0 a fd ∧ mg "_law_tape" = some (.ref a)
  f_1 : ∃ a fd, FnP K "factored" st1 a fd ∧ mg "factored" = some (.ref a)
  f_2 : ∃ a fd, FnP K "square_free" st2 a fd ∧ mg "square_free" = some (.ref a)
  f_3 : ∃ a fd, FnP K "check" st3 a fd ∧ mg "check" = some (.ref a)
  f_4 : ∃ a fd, FnP K "square_root" st4 a fd ∧ mg "square_root" = some (.ref a)
  f_5 : ∃ a fd, FnP K "is_square" st5 a fd ∧ mg "is_square" = some (.ref a)
  f_6 : ∃ a fd, FnP K "fundamental_unit" st6 a fd ∧ mg "fundamental_unit" = some (.ref a)
  f_7 : ∃ a fd, FnP K "continued_root" st7 a fd ∧ mg "continued_root" = some (.ref a)
  f_8 : ∃ a fd, FnP K "pell" st8 a fd ∧ mg "pell" = some (.ref a)
  f_9 : ∃ a fd, FnP K "_law_take" st9 a fd ∧ mg "_law_take" = some (.ref a)
  f_10 : ∃ a fd, FnP K "unit_norm" st10 a fd ∧ mg "unit_norm" = some (.ref a)
  f_11 : ∃ a fd, FnP K "_law_root" st11 a fd ∧ mg "_law_root" = some (.ref a)
  f_12 : ∃ a fd, FnP K "_law_root_fast" st12 a fd ∧ mg "_law_root_fast" = some (.ref a)
  f_13 : ∃ a fd, FnP K "law" st13 a fd ∧ mg "law" = some (.ref a)
/-- the most turns of a while -/
def Wd : Nat := 1000000
theorem cs {w : World} {K : PySem.W.Frag} {mg : Str → Option Value} {base : Heap} {ca : Nat → Value} (F : Fs K mg) (M : Md K mg ca) : ∀ n, Cs prg w K mg base ca (calls gc Wd P n) n
  | 0 => {
    cal_0 := let ⟨_, _, h, m⟩ := F.f_0; cal_zero h m (bd0 h) rfl rfl,
    cal_1 := let ⟨_, _, h, m⟩ := F.f_1; cal_zero h m (bd1 h) rfl rfl,
    cal_2 := let ⟨_, _, h, m⟩ := F.f_2; cal_zero h m (bd2 h) rfl rfl,
    cal_3 := let ⟨_, _, h, m⟩ := F.f_3; cal_zero h m (bd3 h) rfl rfl,
    cal_4 := let ⟨_, _, h, m⟩ := F.f_4; cal_zero h m (bd4 h) rfl rfl,
    cal_5 := let ⟨_, _, h, m⟩ := F.f_5; cal_zero h m (bd5 h) rfl rfl,
    cal_6 := let ⟨_, _, h, m⟩ := F.f_6; cal_zero h m (bd6 h) rfl rfl,
    cal_7 := let ⟨_, _, h, m⟩ := F.f_7; cal_zero h m (bd7 h) rfl rfl,
    cal_8 := let ⟨_, _, h, m⟩ := F.f_8; cal_zero h m (bd8 h) rfl rfl,
    cal_9 := let ⟨_, _, h, m⟩ := F.f_9; cal_zero h m (bd9 h) rfl rfl,
    cal_10 := let ⟨_, _, h, m⟩ := F.f_10; cal_zero h m (bd10 h) rfl rfl,
    cal_11 := let ⟨_, _, h, m⟩ := F.f_11; cal_zero h m (bd11 h) rfl rfl,
    cal_12 := let ⟨_, _, h, m⟩ := F.f_12; cal_zero h m (bd12 h) rfl rfl }
  | n + 1 =>
    have T : Tx prg w K mg base ca (calls gc Wd P n) n := ⟨cs F M n, M⟩
    {
    cal_0 := let ⟨_, _, h, m⟩ := F.f_0; cal_succ h m (bd0 h) rfl (ok0 h T) rfl rfl,
    cal_1 := let ⟨_, _, h, m⟩ := F.f_1; cal_succ h m (bd1 h) rfl (ok1 h T) rfl rfl,
    cal_2 := let ⟨_, _, h, m⟩ := F.f_2; cal_succ h m (bd2 h) rfl (ok2 h T) rfl rfl,
    cal_3 := let ⟨_, _, h, m⟩ := F.f_3; cal_succ h m (bd3 h) rfl (ok3 h T) rfl rfl,
    cal_4 := let ⟨_, _, h, m⟩ := F.f_4; cal_succ h m (bd4 h) rfl (ok4 h T) rfl rfl,
    cal_5 := let ⟨_, _, h, m⟩ := F.f_5; cal_succ h m (bd5 h) rfl (ok5 h T) rfl rfl,
    cal_6 := let ⟨_, _, h, m⟩ := F.f_6; cal_succ h m (bd6 h) rfl (ok6 h T) rfl rfl,
    cal_7 := let ⟨_, _, h, m⟩ := F.f_7; cal_succ h m (bd7 h) rfl (ok7 h T) rfl rfl,
    cal_8 := let ⟨_, _, h, m⟩ := F.f_8; cal_succ h m (bd8 h) rfl (ok8 h T) rfl rfl,
    cal_9 := let ⟨_, _, h, m⟩ := F.f_9; cal_succ h m (bd9 h) rfl (ok9 h T) rfl rfl,
    cal_10 := let ⟨_, _, h, m⟩ := F.f_10; cal_succ h m (bd10 h) rfl (ok10 h T) rfl rfl,
    cal_11 := let ⟨_, _, h, m⟩ := F.f_11; cal_succ h m (bd11 h) rfl (ok11 h T) rfl rfl,
    cal_12 := let ⟨_, _, h, m⟩ := F.f_12; cal_succ h m (bd12 h) rfl (ok12 h T) rfl rfl }
theorem law_ok {w : World} {K : PySem.W.Frag} {mg : Str → Option Value} {base : Heap} {ca : Nat → Value} {f : Addr} {fd : FuncData} (FD : FnP K "law" st13 f fd) (F : Fs K mg) (M : Md K mg ca) : FnOk prg w K mg base CX0 30 f fd p13 (fun vs H Q _ => FnS K ca 1 (calls gc Wd P 30 nLaw) false vs H Q fun _ _ _ => False) := ok13 FD ⟨cs F M 29, M⟩
/-! ### the head: facts by names, the run -/
def dd0 : He.DefD := ⟨("_law_tape", none), "_law_tape", "_law_tape", L2.defArgs st0, L2.defBody st0, L2.defScope st0, [], []⟩
def dd1 : He.DefD := ⟨("factored", none), "factored", "factored", L2.defArgs st1, L2.defBody st1, L2.defScope st1, [], []⟩
def dd2 : He.DefD := ⟨("square_free", none), "square_free", "square_free", L2.defArgs st2, L2.defBody st2, L2.defScope st2, [], []⟩
def dd3 : He.DefD := ⟨("check", none), "check", "check", L2.defArgs st3, L2.defBody st3, L2.defScope st3, [], []⟩
def dd4 : He.DefD := ⟨("square_root", none), "square_root", "square_root", L2.defArgs st4, L2.defBody st4, L2.defScope st4, [], []⟩
def dd5 : He.DefD := ⟨("is_square", none), "is_square", "is_square", L2.defArgs st5, L2.defBody st5, L2.defScope st5, [], []⟩
def dd6 : He.DefD := ⟨("fundamental_unit", none), "fundamental_unit", "fundamental_unit", L2.defArgs st6, L2.defBody st6, L2.defScope st6, [], []⟩
def dd7 : He.DefD := ⟨("continued_root", none), "continued_root", "continued_root", L2.defArgs st7, L2.defBody st7, L2.defScope st7, [], []⟩
def dd8 : He.DefD := ⟨("pell", none), "pell", "pell", L2.defArgs st8, L2.defBody st8, L2.defScope st8, [], []⟩
def dd9 : He.DefD := ⟨("_law_take", none), "_law_take", "_law_take", L2.defArgs st9, L2.defBody st9, L2.defScope st9, [], []⟩
def dd10 : He.DefD := ⟨("unit_norm", none), "unit_norm", "unit_norm", L2.defArgs st10, L2.defBody st10, L2.defScope st10, [], []⟩
def dd11 : He.DefD := ⟨("_law_root", none), "_law_root", "_law_root", L2.defArgs st11, L2.defBody st11, L2.defScope st11, [], []⟩
def dd12 : He.DefD := ⟨("_law_root_fast", none), "_law_root_fast", "_law_root_fast", L2.defArgs st12, L2.defBody st12, L2.defScope st12, [], []⟩
def dd13 : He.DefD := ⟨("law", none), "law", "law", L2.defArgs st13, L2.defBody st13, L2.defScope st13, [], []⟩
def fnL : List He.DefD := [dd0, dd1, dd2, dd3, dd4, dd5, dd6, dd7, dd8, dd9, dd10, dd11, dd12, dd13]
def faL : List He.Fa := [.glo "_law_tape", .glo "factored", .glo "square_free", .glo "check", .glo "square_root", .glo "is_square", .glo "fundamental_unit", .glo "continued_root", .glo "pell", .glo "_law_take", .glo "unit_norm", .glo "_law_root", .glo "_law_root_fast", .glo "law", .free "abs", .free "int", .free "range", .free "tuple", .free "len", .free "list", .free "min", .glo "NoField", .exc "NoField", .exm "NoField" "NoField" true]
abbrev R : PySem.W.OpenRow := PySem.W.OpenLaw.row PySem.Challenge.rw_rootsinlayers_k17_whole_units_and_fracti
abbrev hk : PySem.W.Hook := He.hookD 4 faL fnL
def ob (s : PySem.W.SharedT) : He.AlD := He.obsDG 4 faL fnL (HandSHeadRun.getT s)
theorem ob_eq (s : PySem.W.SharedT) : ob s = hk.obs s.abs := He.obsDG_eq (HandSHeadRun.getT_eq s)
def loose : List PySem.Str := ["LayerError", "NoField", "factored", "square_root", "is_square", "square_free", "check", "fundamental_unit", "unit_norm", "continued_root", "pell", "_law_tape", "_law_take", "_law_is_integer", "_law_same_items", "_law_same", "_law_root", "_law_root_fast"]
theorem run (w : World) : HandSHeadRun.RunEq R (PySem.W.view R.prog [22]) hk ob 4000 loose w := by
  intro os
  kernel_rfl
def caL (K : PySem.W.Frag) : Nat → Value
  | 0 => .ref (He.ga K "NoField")
  | _ => .none
theorem facts {K : PySem.W.Frag} {h : Heap} {mg : Str → Option Value} (X : K.In h) (G : h.Ns mainGlobals mg) (c : He.SaysD faL fnL K) : Fs K mg ∧ Md K mg (caL K) where
  left := {
    f_0 := let ⟨fd, F⟩ := c.def_ 0 (d := dd0) rfl; ⟨_, fd, F, He.glo_ok X G (c.fact 0 (f := .glo "_law_tape") rfl)⟩,
    f_1 := let ⟨fd, F⟩ := c.def_ 1 (d := dd1) rfl; ⟨_, fd, F, He.glo_ok X G (c.fact 1 (f := .glo "factored") rfl)⟩,
    f_2 := let ⟨fd, F⟩ := c.def_ 2 (d := dd2) rfl; ⟨_, fd, F, He.glo_ok X G (c.fact 2 (f := .glo "square_free") rfl)⟩,
    f_3 := let ⟨fd, F⟩ := c.def_ 3 (d := dd3) rfl; ⟨_, fd, F, He.glo_ok X G (c.fact 3 (f := .glo "check") rfl)⟩,
    f_4 := let ⟨fd, F⟩ := c.def_ 4 (d := dd4) rfl; ⟨_, fd, F, He.glo_ok X G (c.fact 4 (f := .glo "square_root") rfl)⟩,
    f_5 := let ⟨fd, F⟩ := c.def_ 5 (d := dd5) rfl; ⟨_, fd, F, He.glo_ok X G (c.fact 5 (f := .glo "is_square") rfl)⟩,
    f_6 := let ⟨fd, F⟩ := c.def_ 6 (d := dd6) rfl; ⟨_, fd, F, He.glo_ok X G (c.fact 6 (f := .glo "fundamental_unit") rfl)⟩,
    f_7 := let ⟨fd, F⟩ := c.def_ 7 (d := dd7) rfl; ⟨_, fd, F, He.glo_ok X G (c.fact 7 (f := .glo "continued_root") rfl)⟩,
    f_8 := let ⟨fd, F⟩ := c.def_ 8 (d := dd8) rfl; ⟨_, fd, F, He.glo_ok X G (c.fact 8 (f := .glo "pell") rfl)⟩,
    f_9 := let ⟨fd, F⟩ := c.def_ 9 (d := dd9) rfl; ⟨_, fd, F, He.glo_ok X G (c.fact 9 (f := .glo "_law_take") rfl)⟩,
    f_10 := let ⟨fd, F⟩ := c.def_ 10 (d := dd10) rfl; ⟨_, fd, F, He.glo_ok X G (c.fact 10 (f := .glo "unit_norm") rfl)⟩,
    f_11 := let ⟨fd, F⟩ := c.def_ 11 (d := dd11) rfl; ⟨_, fd, F, He.glo_ok X G (c.fact 11 (f := .glo "_law_root") rfl)⟩,
    f_12 := let ⟨fd, F⟩ := c.def_ 12 (d := dd12) rfl; ⟨_, fd, F, He.glo_ok X G (c.fact 12 (f := .glo "_law_root_fast") rfl)⟩,
    f_13 := let ⟨fd, F⟩ := c.def_ 13 (d := dd13) rfl; ⟨_, fd, F, He.glo_ok X G (c.fact 13 (f := .glo "law") rfl)⟩ }
  right := {
    fr_abs := He.free_ok X G (c.fact 14 (f := .free "abs") rfl),
    fr_int := He.free_ok X G (c.fact 15 (f := .free "int") rfl),
    fr_range := He.free_ok X G (c.fact 16 (f := .free "range") rfl),
    fr_tuple := He.free_ok X G (c.fact 17 (f := .free "tuple") rfl),
    fr_len := He.free_ok X G (c.fact 18 (f := .free "len") rfl),
    fr_list := He.free_ok X G (c.fact 19 (f := .free "list") rfl),
    fr_min := He.free_ok X G (c.fact 20 (f := .free "min") rfl),
    kls_0 := kls_ve (He.exc_ok (c.fact 22 (f := .exc "NoField") rfl)) (He.glo_ok X G (c.fact 21 (f := .glo "NoField") rfl)) rfl rfl,
    nam_0 := He.glo_ok X G (c.fact 21 (f := .glo "NoField") rfl),
    exm_0_0 := He.exm_ok (c.fact 23 (f := .exm "NoField" "NoField" true) rfl) }
end Lw

namespace Lw
open PySem Fw
abbrev OL := Option LVal
def Cl : Calls := calls gc Wd P 29
def B : S := d13.body
def dsV : LVal := .own (.lst [.int 2, .int 3, .int 5, .int 6, .int 7, .int 10, .int 11, .int 13, .int 14, .int 15, .int 17, .int 21, .int 29, .int 33, .int 37, .int 41, .int 53, .int 65, .int 69, .int 77, .int 85])
theorem mid0 (a0 a1 a2 : OL) : denS Cl gc false Wd (takeS 5 (dropS 3 B)) [a0, a1, a2, some (.imm (.int 2)), none, none, none, none, none, none, none, none, none, none, none, none, none, none, none, none, none, none, none, none] = (.next [a0, a1, a2, some (.imm (.int 2)), some (.imm (.int 1)), some (.imm (.int 1)), some (.imm (.int 1)), some (.imm (.int (-1))), some (.imm (.int 2)), some (.imm (.int 1)), some (.imm (.int 4)), some (.imm (.int 6)), none, none, none, none, none, none, none, none, none, none, none, none]) := by kernel_rfl
theorem mid1 (a0 a1 a2 : OL) : denS Cl gc false Wd (takeS 5 (dropS 3 B)) [a0, a1, a2, some (.imm (.int 3)), none, none, none, none, none, none, none, none, none, none, none, none, none, none, none, none, none, none, none, none] = (.next [a0, a1, a2, some (.imm (.int 3)), some (.imm (.int 2)), some (.imm (.int 1)), some (.imm (.int 1)), some (.imm (.int 1)), some (.imm (.int 2)), some (.imm (.int 1)), some (.imm (.int 4)), some (.imm (.int 7)), none, none, none, none, none, none, none, none, none, none, none, none]) := by kernel_rfl
theorem mid2 (a0 a1 a2 : OL) : denS Cl gc false Wd (takeS 5 (dropS 3 B)) [a0, a1, a2, some (.imm (.int 5)), none, none, none, none, none, none, none, none, none, none, none, none, none, none, none, none, none, none, none, none] = (.next [a0, a1, a2, some (.imm (.int 5)), some (.imm (.int 1)), some (.imm (.int 1)), some (.imm (.int 2)), some (.imm (.int (-4))), some (.imm (.int 1)), none, none, none, none, none, none, none, none, none, none, none, none, none, none, none]) := by kernel_rfl
theorem mid3 (a0 a1 a2 : OL) : denS Cl gc false Wd (takeS 5 (dropS 3 B)) [a0, a1, a2, some (.imm (.int 6)), none, none, none, none, none, none, none, none, none, none, none, none, none, none, none, none, none, none, none, none] = (.next [a0, a1, a2, some (.imm (.int 6)), some (.imm (.int 5)), some (.imm (.int 2)), some (.imm (.int 1)), some (.imm (.int 1)), some (.imm (.int 2)), some (.imm (.int 3)), some (.imm (.int 4)), some (.imm (.int 58)), none, none, none, none, none, none, none, none, none, none, none, none]) := by kernel_rfl
theorem mid4 (a0 a1 a2 : OL) : denS Cl gc false Wd (takeS 5 (dropS 3 B)) [a0, a1, a2, some (.imm (.int 7)), none, none, none, none, none, none, none, none, none, none, none, none, none, none, none, none, none, none, none, none] = (.next [a0, a1, a2, some (.imm (.int 7)), some (.imm (.int 8)), some (.imm (.int 3)), some (.imm (.int 1)), some (.imm (.int 1)), some (.imm (.int 2)), some (.imm (.int 5)), some (.imm (.int 4)), some (.imm (.int 179)), none, none, none, none, none, none, none, none, none, none, none, none]) := by kernel_rfl
theorem mid5 (a0 a1 a2 : OL) : denS Cl gc false Wd (takeS 5 (dropS 3 B)) [a0, a1, a2, some (.imm (.int 10)), none, none, none, none, none, none, none, none, none, none, none, none, none, none, none, none, none, none, none, none] = (.next [a0, a1, a2, some (.imm (.int 10)), some (.imm (.int 3)), some (.imm (.int 1)), some (.imm (.int 1)), some (.imm (.int (-1))), some (.imm (.int 2)), some (.imm (.int 1)), some (.imm (.int 4)), some (.imm (.int 14)), none, none, none, none, none, none, none, none, none, none, none, none]) := by kernel_rfl
theorem mid6 (a0 a1 a2 : OL) : denS Cl gc false Wd (takeS 5 (dropS 3 B)) [a0, a1, a2, some (.imm (.int 11)), none, none, none, none, none, none, none, none, none, none, none, none, none, none, none, none, none, none, none, none] = (.next [a0, a1, a2, some (.imm (.int 11)), some (.imm (.int 10)), some (.imm (.int 3)), some (.imm (.int 1)), some (.imm (.int 1)), some (.imm (.int 2)), some (.imm (.int 5)), some (.imm (.int 4)), some (.imm (.int 279)), none, none, none, none, none, none, none, none, none, none, none, none]) := by kernel_rfl
theorem mid7 (a0 a1 a2 : OL) : denS Cl gc false Wd (takeS 5 (dropS 3 B)) [a0, a1, a2, some (.imm (.int 13)), none, none, none, none, none, none, none, none, none, none, none, none, none, none, none, none, none, none, none, none] = (.next [a0, a1, a2, some (.imm (.int 13)), some (.imm (.int 3)), some (.imm (.int 1)), some (.imm (.int 2)), some (.imm (.int (-4))), some (.imm (.int 1)), none, none, none, none, none, none, none, none, none, none, none, none, none, none, none]) := by kernel_rfl
theorem mid8 (a0 a1 a2 : OL) : denS Cl gc false Wd (takeS 5 (dropS 3 B)) [a0, a1, a2, some (.imm (.int 14)), none, none, none, none, none, none, none, none, none, none, none, none, none, none, none, none, none, none, none, none] = (.next [a0, a1, a2, some (.imm (.int 14)), some (.imm (.int 15)), some (.imm (.int 4)), some (.imm (.int 1)), some (.imm (.int 1)), some (.imm (.int 2)), some (.imm (.int 7)), some (.imm (.int 4)), some (.imm (.int 690)), none, none, none, none, none, none, none, none, none, none, none, none]) := by kernel_rfl
theorem mid9 (a0 a1 a2 : OL) : denS Cl gc false Wd (takeS 5 (dropS 3 B)) [a0, a1, a2, some (.imm (.int 15)), none, none, none, none, none, none, none, none, none, none, none, none, none, none, none, none, none, none, none, none] = (.next [a0, a1, a2, some (.imm (.int 15)), some (.imm (.int 4)), some (.imm (.int 1)), some (.imm (.int 1)), some (.imm (.int 1)), some (.imm (.int 2)), some (.imm (.int 1)), some (.imm (.int 4)), some (.imm (.int 19)), none, none, none, none, none, none, none, none, none, none, none, none]) := by kernel_rfl
theorem mid10 (a0 a1 a2 : OL) : denS Cl gc false Wd (takeS 5 (dropS 3 B)) [a0, a1, a2, some (.imm (.int 17)), none, none, none, none, none, none, none, none, none, none, none, none, none, none, none, none, none, none, none, none] = (.next [a0, a1, a2, some (.imm (.int 17)), some (.imm (.int 4)), some (.imm (.int 1)), some (.imm (.int 1)), some (.imm (.int (-1))), some (.imm (.int 2)), some (.imm (.int 1)), some (.imm (.int 4)), some (.imm (.int 21)), none, none, none, none, none, none, none, none, none, none, none, none]) := by kernel_rfl
theorem mid11 (a0 a1 a2 : OL) : denS Cl gc false Wd (takeS 5 (dropS 3 B)) [a0, a1, a2, some (.imm (.int 21)), none, none, none, none, none, none, none, none, none, none, none, none, none, none, none, none, none, none, none, none] = (.next [a0, a1, a2, some (.imm (.int 21)), some (.imm (.int 5)), some (.imm (.int 1)), some (.imm (.int 2)), some (.imm (.int 4)), some (.imm (.int 1)), none, none, none, none, none, none, none, none, none, none, none, none, none, none, none]) := by kernel_rfl
theorem mid12 (a0 a1 a2 : OL) : denS Cl gc false Wd (takeS 5 (dropS 3 B)) [a0, a1, a2, some (.imm (.int 29)), none, none, none, none, none, none, none, none, none, none, none, none, none, none, none, none, none, none, none, none] = (.next [a0, a1, a2, some (.imm (.int 29)), some (.imm (.int 5)), some (.imm (.int 1)), some (.imm (.int 2)), some (.imm (.int (-4))), some (.imm (.int 1)), none, none, none, none, none, none, none, none, none, none, none, none, none, none, none]) := by kernel_rfl
theorem mid13 (a0 a1 a2 : OL) : denS Cl gc false Wd (takeS 5 (dropS 3 B)) [a0, a1, a2, some (.imm (.int 33)), none, none, none, none, none, none, none, none, none, none, none, none, none, none, none, none, none, none, none, none] = (.next [a0, a1, a2, some (.imm (.int 33)), some (.imm (.int 23)), some (.imm (.int 4)), some (.imm (.int 1)), some (.imm (.int 1)), some (.imm (.int 2)), some (.imm (.int 7)), some (.imm (.int 4)), some (.imm (.int 1621)), none, none, none, none, none, none, none, none, none, none, none, none]) := by kernel_rfl
theorem mid14 (a0 a1 a2 : OL) : denS Cl gc false Wd (takeS 5 (dropS 3 B)) [a0, a1, a2, some (.imm (.int 37)), none, none, none, none, none, none, none, none, none, none, none, none, none, none, none, none, none, none, none, none] = (.next [a0, a1, a2, some (.imm (.int 37)), some (.imm (.int 6)), some (.imm (.int 1)), some (.imm (.int 1)), some (.imm (.int (-1))), some (.imm (.int 2)), some (.imm (.int 1)), some (.imm (.int 4)), some (.imm (.int 41)), none, none, none, none, none, none, none, none, none, none, none, none]) := by kernel_rfl
theorem mid15 (a0 a1 a2 : OL) : denS Cl gc false Wd (takeS 5 (dropS 3 B)) [a0, a1, a2, some (.imm (.int 41)), none, none, none, none, none, none, none, none, none, none, none, none, none, none, none, none, none, none, none, none] = (.next [a0, a1, a2, some (.imm (.int 41)), some (.imm (.int 32)), some (.imm (.int 5)), some (.imm (.int 1)), some (.imm (.int (-1))), some (.imm (.int 2)), some (.imm (.int 9)), some (.imm (.int 4)), some (.imm (.int 3325)), none, none, none, none, none, none, none, none, none, none, none, none]) := by kernel_rfl
theorem mid16 (a0 a1 a2 : OL) : denS Cl gc false Wd (takeS 5 (dropS 3 B)) [a0, a1, a2, some (.imm (.int 53)), none, none, none, none, none, none, none, none, none, none, none, none, none, none, none, none, none, none, none, none] = (.next [a0, a1, a2, some (.imm (.int 53)), some (.imm (.int 7)), some (.imm (.int 1)), some (.imm (.int 2)), some (.imm (.int (-4))), some (.imm (.int 1)), none, none, none, none, none, none, none, none, none, none, none, none, none, none, none]) := by kernel_rfl
theorem mid17 (a0 a1 a2 : OL) : denS Cl gc false Wd (takeS 5 (dropS 3 B)) [a0, a1, a2, some (.imm (.int 65)), none, none, none, none, none, none, none, none, none, none, none, none, none, none, none, none, none, none, none, none] = (.next [a0, a1, a2, some (.imm (.int 65)), some (.imm (.int 8)), some (.imm (.int 1)), some (.imm (.int 1)), some (.imm (.int (-1))), some (.imm (.int 2)), some (.imm (.int 1)), some (.imm (.int 4)), some (.imm (.int 69)), none, none, none, none, none, none, none, none, none, none, none, none]) := by kernel_rfl
theorem mid18 (a0 a1 a2 : OL) : denS Cl gc false Wd (takeS 5 (dropS 3 B)) [a0, a1, a2, some (.imm (.int 69)), none, none, none, none, none, none, none, none, none, none, none, none, none, none, none, none, none, none, none, none] = (.next [a0, a1, a2, some (.imm (.int 69)), some (.imm (.int 25)), some (.imm (.int 3)), some (.imm (.int 2)), some (.imm (.int 4)), some (.imm (.int 1)), some (.imm (.int 2)), some (.imm (.int 4)), some (.imm (.int 280)), none, none, none, none, none, none, none, none, none, none, none, none]) := by kernel_rfl
theorem mid19 (a0 a1 a2 : OL) : denS Cl gc false Wd (takeS 5 (dropS 3 B)) [a0, a1, a2, some (.imm (.int 77)), none, none, none, none, none, none, none, none, none, none, none, none, none, none, none, none, none, none, none, none] = (.next [a0, a1, a2, some (.imm (.int 77)), some (.imm (.int 9)), some (.imm (.int 1)), some (.imm (.int 2)), some (.imm (.int 4)), some (.imm (.int 1)), none, none, none, none, none, none, none, none, none, none, none, none, none, none, none]) := by kernel_rfl
theorem mid20 (a0 a1 a2 : OL) : denS Cl gc false Wd (takeS 5 (dropS 3 B)) [a0, a1, a2, some (.imm (.int 85)), none, none, none, none, none, none, none, none, none, none, none, none, none, none, none, none, none, none, none, none] = (.next [a0, a1, a2, some (.imm (.int 85)), some (.imm (.int 9)), some (.imm (.int 1)), some (.imm (.int 2)), some (.imm (.int (-4))), some (.imm (.int 1)), none, none, none, none, none, none, none, none, none, none, none, none, none, none, none]) := by kernel_rfl
def bodyW : S := .seq (.asg 11 (.bin .add (.bin .mul (.bin .mul (.var 13) (.var 21)) (.var 21)) (.cst (.int 1))))
  (.cond (.cmp .eq (.bin .mul (.call 12 (.cons (.var 11) .nil)) (.call 12 (.cons (.var 11) .nil))) (.var 11)) (.ret (.cst (.bool false))) .pass)
theorem bodyW_ok {m k : Nat} (hm : m ≤ 61) (hk : k < 3000) (h : noSq (m * (1 + k) * (1 + k) + 1) = true) (b0 b1 b2 b3 b4 b5 b6 b7 b8 b9 b10 b12 b14 b15 b16 b17 b18 b19 b20 x11 : OL) : denS Cl gc false Wd bodyW [b0, b1, b2, b3, b4, b5, b6, b7, b8, b9, b10, x11, b12, some (.imm (.int (m : Int))), b14, b15, b16, b17, b18, b19, b20, some (.imm (.int (1 + (k : Int)))), none, none] = .next [b0, b1, b2, b3, b4, b5, b6, b7, b8, b9, b10, some (.imm (.int ((m : Int) * (1 + k) * (1 + k) + 1))), b12, some (.imm (.int (m : Int))), b14, b15, b16, b17, b18, b19, b20, some (.imm (.int (1 + (k : Int)))), none, none] := by
  have p1 : ((m * (1 + k) * (1 + k) + 1 : Nat) : Int) = (m : Int) * (1 + k) * (1 + k) + 1 := by simp
  have p2 : m * (1 + k) ≤ 61 * 3000 := Nat.mul_le_mul hm (by omega)
  have p3 : m * (1 + k) * (1 + k) ≤ 61 * 3000 * 3000 := Nat.mul_le_mul p2 (by omega)
  have p4 : ((m * (1 + k) : Nat) : Int) = (m : Int) * (1 + k) := by simp
  generalize hw : (1 : Int) + (k : Int) = w at *
  have w1 : wideMul (m : Int) w = true := wide64 (by omega) (by omega)
  have w2 : wideMul ((m : Int) * w) w = true := wide64 (by rw [← p4]; omega) (by omega)
  generalize hn : (m : Int) * w * w + 1 = n at *
  obtain ⟨r, e, r0, r1, r2⟩ := root_ok (C := calls gc Wd P 28) (G := gc) (W := Wd) (n := n) (by omega) (by omega) (by decide)
  have e' : Cl 12 [.imm (.int n)] = .ok (.imm (.int r)) none := e
  have ne : r * r ≠ n := noSq_int (by omega) (by rw [← p1]; exact h) r0
  have r3 : r < 2 ^ 40 := by
    by_cases c : r < 2 ^ 40
    · exact c
    · have : (2 : Int) ^ 40 * 2 ^ 40 ≤ r * r := Int.mul_le_mul (by omega) (by omega) (by omega) (by omega)
      omega
  have w3 : wideMul r r = true := wide64 (by omega) (by omega)
  have nb : (r * r == n) = false := by simpa using ne
  simp [bodyW, denS, seqS, asgS, condS, den, cmpT, twoF, binF, varF, cstF, getL, Res.bind, Res.toS, rd, LVal.data, ofOpt, opB, opAdd, opMul, opC, eqD, fixP, asgV, setV, callF, keptF, keepAll, keepD, consA, nilA, callK, e', w1, w2, w3, hn, nb]
theorem loopW {m : Nat} (hm : m ≤ 61) (b0 b1 b2 b3 b4 b5 b6 b7 b8 b9 b10 b12 b14 b15 b16 b17 b18 b19 b20 : OL) : ∀ (l : List Nat), (∀ k ∈ l, k < 3000 ∧ noSq (m * (1 + k) * (1 + k) + 1) = true) → ∀ x11 x21 : OL, ∃ y11 y21, eachL (asgD false (.var 21)) (denS Cl gc false Wd bodyW) (l.map fun k => PyData.int (1 + (k : Nat))) [b0, b1, b2, b3, b4, b5, b6, b7, b8, b9, b10, x11, b12, some (.imm (.int (m : Int))), b14, b15, b16, b17, b18, b19, b20, x21, none, none] = .next [b0, b1, b2, b3, b4, b5, b6, b7, b8, b9, b10, y11, b12, some (.imm (.int (m : Int))), b14, b15, b16, b17, b18, b19, b20, y21, none, none]
  | [], _, x11, x21 => ⟨x11, x21, rfl⟩
  | k :: l, h, x11, x21 => by
    obtain ⟨hk, hs⟩ := h k List.mem_cons_self
    obtain ⟨y11, y21, ih⟩ := loopW hm b0 b1 b2 b3 b4 b5 b6 b7 b8 b9 b10 b12 b14 b15 b16 b17 b18 b19 b20 l (fun k' q => h k' (List.mem_cons_of_mem _ q)) (some (.imm (.int ((m : Int) * (1 + k) * (1 + k) + 1)))) (some (.imm (.int (1 + (k : Int)))))
    exact ⟨y11, y21, each_step rfl (bodyW_ok hm hk hs b0 b1 b2 b3 b4 b5 b6 b7 b8 b9 b10 b12 b14 b15 b16 b17 b18 b19 b20 x11) ih⟩
def chkW (m c : Nat) : Bool := (List.range c).all fun k => noSq (m * (1 + k) * (1 + k) + 1)
theorem chkW_ok {m c : Nat} (hc : c ≤ 3000) (h : chkW m c = true) : ∀ k ∈ List.range c, k < 3000 ∧ noSq (m * (1 + k) * (1 + k) + 1) = true := fun k hk => ⟨by have := List.mem_range.mp hk; omega, List.all_eq_true.mp h k hk⟩
theorem fin (b0 b1 b2 b3 b4 b5 b6 b7 b8 b9 b10 b11 b12 b13 b14 b15 b16 b17 b18 b19 b20 b21 : OL) : denS Cl gc false Wd (dropS 1 (dropS 9 (dropS 9 B))) [b0, b1, b2, b3, b4, b5, b6, b7, b8, b9, b10, b11, b12, b13, b14, b15, b16, b17, b18, b19, b20, b21, none, none] = .ret (.imm (.bool true)) [b0, b1, b2, b3, b4, b5, b6, b7, b8, b9, b10, b11, b12, b13, b14, b15, b16, b17, b18, b19, b20, b21, some (.imm (.int 3)), some (.imm (.int 12))] := by kernel_rfl
theorem sp18 : takeS 1 (dropS 9 (dropS 9 B)) = .seq (.each (.var 21) (.rng2 (.cons (.cst (.int 1)) (.cons (.bi .min2 (.cons (.var 9) (.cons (.cst (.int 3000)) .nil))) .nil))) bodyW) .pass := rfl
theorem wfor {m c : Nat} {mi v : Int} (hmi : mi = (m : Int)) (hm : m ≤ 61) (hc : (if (3000 : Int) < v then 3000 else v) = (c : Int) + 1) (hc2 : c ≤ 3000) (h : chkW m c = true) (b0 b1 b2 b3 b4 b5 b6 b7 b8 b10 b12 b14 b15 b16 b17 b18 b19 b20 x11 x21 : OL) : ∃ y11 y21, denS Cl gc false Wd (takeS 1 (dropS 9 (dropS 9 B))) [b0, b1, b2, b3, b4, b5, b6, b7, b8, some (.imm (.int v)), b10, x11, b12, some (.imm (.int mi)), b14, b15, b16, b17, b18, b19, b20, x21, none, none] = .next [b0, b1, b2, b3, b4, b5, b6, b7, b8, some (.imm (.int v)), b10, y11, b12, some (.imm (.int mi)), b14, b15, b16, b17, b18, b19, b20, y21, none, none] := by
  subst hmi
  obtain ⟨y11, y21, e⟩ := loopW hm b0 b1 b2 b3 b4 b5 b6 b7 b8 (some (.imm (.int v))) b10 b12 b14 b15 b16 b17 b18 b19 b20 (List.range c) (chkW_ok hc2 h) x11 x21
  refine ⟨y11, y21, ?_⟩
  have e2 : (den Cl gc false (.rng2 (.cons (.cst (.int 1)) (.cons (.bi .min2 (.cons (.var 9) (.cons (.cst (.int 3000)) .nil))) .nil)))).i [b0, b1, b2, b3, b4, b5, b6, b7, b8, some (.imm (.int v)), b10, x11, b12, some (.imm (.int (m : Int))), b14, b15, b16, b17, b18, b19, b20, x21, none, none] = .ok ((List.range c).map fun k => PyData.int (1 + (k : Nat))) [b0, b1, b2, b3, b4, b5, b6, b7, b8, some (.imm (.int v)), b10, x11, b12, some (.imm (.int (m : Int))), b14, b15, b16, b17, b18, b19, b20, x21, none, none] := by
    have e3 : (if (3000 : Int) < v then 3000 else v) = 1 + (c : Int) := by rw [hc]; omega
    have q := rng2_ok (i := 1) (c := c) (by omega) (by omega) (by omega) (by omega)
    rw [← e3] at q
    simp only [den, rngI2, consA, cstF, biF, nilA, varF, getL, Res.bind, rdAll, rd, ofOpt, opBI, biMin2, List.getElem?_cons_succ, List.getElem?_cons_zero, q]
  rw [sp18]
  exact seq_next (L1 := [b0, b1, b2, b3, b4, b5, b6, b7, b8, some (.imm (.int v)), b10, y11, b12, some (.imm (.int (m : Int))), b14, b15, b16, b17, b18, b19, b20, y21, none, none]) (each_of e2 e) dS_pass
theorem n2 (a0 a1 a2 a3 a4 a5 a6 a7 a8 a9 a10 a11 a12 : OL) : denS Cl gc false Wd (takeS 9 (dropS 9 B)) [a0, a1, a2, a3, a4, a5, a6, a7, a8, a9, a10, a11, a12, some (.imm (.int 2)), none, none, none, none, none, none, none, none, none, none] = .next [a0, a1, a2, a3, a4, a5, a6, a7, a8, some (.imm (.int 2)), a10, a11, some (.imm (.int 3)), some (.imm (.int 2)), some (.imm (.int 1)), some (.imm (.tuple [(.int 2)])), some (.imm (.int 1)), some (.imm (.int 1)), some (.own (.lst [(.int 1), (.int 2)])), some (.imm (.int 1)), some (.imm (.int 2)), none, none, none] := by kernel_rfl
theorem c2 : chkW 2 1 = true := by kernel_rfl
theorem m2 (a0 a1 a2 a3 a4 a5 a6 a7 a8 a9 a10 a11 a12 : OL) : ∃ L1, denS Cl gc false Wd (dropS 9 B) [a0, a1, a2, a3, a4, a5, a6, a7, a8, a9, a10, a11, a12, some (.imm (.int 2)), none, none, none, none, none, none, none, none, none, none] = .ret (.imm (.bool true)) L1 := by
  obtain ⟨y11, y21, e⟩ := wfor (m := 2) (c := 1) (mi := 2) (v := 2) rfl (by decide) (by decide) (by decide) c2 (a0) (a1) (a2) (a3) (a4) (a5) (a6) (a7) (a8) (a10) (some (.imm (.int 3))) (some (.imm (.int 1))) (some (.imm (.tuple [(.int 2)]))) (some (.imm (.int 1))) (some (.imm (.int 1))) (some (.own (.lst [(.int 1), (.int 2)]))) (some (.imm (.int 1))) (some (.imm (.int 2))) (a11) none
  exact ⟨_, seg_S 9 _ (n2 a0 a1 a2 a3 a4 a5 a6 a7 a8 a9 a10 a11 a12) (seg_S 1 _ e (fin (a0) (a1) (a2) (a3) (a4) (a5) (a6) (a7) (a8) (some (.imm (.int 2))) (a10) y11 (some (.imm (.int 3))) (some (.imm (.int 2))) (some (.imm (.int 1))) (some (.imm (.tuple [(.int 2)]))) (some (.imm (.int 1))) (some (.imm (.int 1))) (some (.own (.lst [(.int 1), (.int 2)]))) (some (.imm (.int 1))) (some (.imm (.int 2))) y21))⟩
theorem n3 (a0 a1 a2 a3 a4 a5 a6 a7 a8 a9 a10 a11 a12 : OL) : denS Cl gc false Wd (takeS 9 (dropS 9 B)) [a0, a1, a2, a3, a4, a5, a6, a7, a8, a9, a10, a11, a12, some (.imm (.int 3)), none, none, none, none, none, none, none, none, none, none] = .next [a0, a1, a2, a3, a4, a5, a6, a7, a8, some (.imm (.int 1)), a10, a11, some (.imm (.int 2)), some (.imm (.int 3)), some (.imm (.int 1)), some (.imm (.tuple [(.int 1), (.int 2)])), some (.imm (.int 1)), some (.imm (.int 2)), some (.own (.lst [(.int 1), (.int 1), (.int 2)])), some (.imm (.int 2)), some (.imm (.int 2)), none, none, none] := by kernel_rfl
theorem c3 : chkW 3 0 = true := by kernel_rfl
theorem m3 (a0 a1 a2 a3 a4 a5 a6 a7 a8 a9 a10 a11 a12 : OL) : ∃ L1, denS Cl gc false Wd (dropS 9 B) [a0, a1, a2, a3, a4, a5, a6, a7, a8, a9, a10, a11, a12, some (.imm (.int 3)), none, none, none, none, none, none, none, none, none, none] = .ret (.imm (.bool true)) L1 := by
  obtain ⟨y11, y21, e⟩ := wfor (m := 3) (c := 0) (mi := 3) (v := 1) rfl (by decide) (by decide) (by decide) c3 (a0) (a1) (a2) (a3) (a4) (a5) (a6) (a7) (a8) (a10) (some (.imm (.int 2))) (some (.imm (.int 1))) (some (.imm (.tuple [(.int 1), (.int 2)]))) (some (.imm (.int 1))) (some (.imm (.int 2))) (some (.own (.lst [(.int 1), (.int 1), (.int 2)]))) (some (.imm (.int 2))) (some (.imm (.int 2))) (a11) none
  exact ⟨_, seg_S 9 _ (n3 a0 a1 a2 a3 a4 a5 a6 a7 a8 a9 a10 a11 a12) (seg_S 1 _ e (fin (a0) (a1) (a2) (a3) (a4) (a5) (a6) (a7) (a8) (some (.imm (.int 1))) (a10) y11 (some (.imm (.int 2))) (some (.imm (.int 3))) (some (.imm (.int 1))) (some (.imm (.tuple [(.int 1), (.int 2)]))) (some (.imm (.int 1))) (some (.imm (.int 2))) (some (.own (.lst [(.int 1), (.int 1), (.int 2)]))) (some (.imm (.int 2))) (some (.imm (.int 2))) y21))⟩
theorem m4 (a0 a1 a2 a3 a4 a5 a6 a7 a8 a9 a10 a11 a12 : OL) : ∃ L1, denS Cl gc false Wd (dropS 9 B) [a0, a1, a2, a3, a4, a5, a6, a7, a8, a9, a10, a11, a12, some (.imm (.int 4)), none, none, none, none, none, none, none, none, none, none] = .ret (.imm (.bool true)) L1 := ⟨[a0, a1, a2, a3, a4, a5, a6, a7, a8, a9, a10, a11, a12, some (.imm (.int 4)), none, none, none, none, none, none, none, none, none, none], by kernel_rfl⟩
theorem n5 (a0 a1 a2 a3 a4 a5 a6 a7 a8 a9 a10 a11 a12 : OL) : denS Cl gc false Wd (takeS 9 (dropS 9 B)) [a0, a1, a2, a3, a4, a5, a6, a7, a8, a9, a10, a11, a12, some (.imm (.int 5)), none, none, none, none, none, none, none, none, none, none] = .next [a0, a1, a2, a3, a4, a5, a6, a7, a8, some (.imm (.int 4)), a10, a11, some (.imm (.int 9)), some (.imm (.int 5)), some (.imm (.int 2)), some (.imm (.tuple [(.int 4)])), some (.imm (.int 2)), some (.imm (.int 1)), some (.own (.lst [(.int 2), (.int 4)])), some (.imm (.int 1)), some (.imm (.int 4)), none, none, none] := by kernel_rfl
theorem c5 : chkW 5 3 = true := by kernel_rfl
theorem m5 (a0 a1 a2 a3 a4 a5 a6 a7 a8 a9 a10 a11 a12 : OL) : ∃ L1, denS Cl gc false Wd (dropS 9 B) [a0, a1, a2, a3, a4, a5, a6, a7, a8, a9, a10, a11, a12, some (.imm (.int 5)), none, none, none, none, none, none, none, none, none, none] = .ret (.imm (.bool true)) L1 := by
  obtain ⟨y11, y21, e⟩ := wfor (m := 5) (c := 3) (mi := 5) (v := 4) rfl (by decide) (by decide) (by decide) c5 (a0) (a1) (a2) (a3) (a4) (a5) (a6) (a7) (a8) (a10) (some (.imm (.int 9))) (some (.imm (.int 2))) (some (.imm (.tuple [(.int 4)]))) (some (.imm (.int 2))) (some (.imm (.int 1))) (some (.own (.lst [(.int 2), (.int 4)]))) (some (.imm (.int 1))) (some (.imm (.int 4))) (a11) none
  exact ⟨_, seg_S 9 _ (n5 a0 a1 a2 a3 a4 a5 a6 a7 a8 a9 a10 a11 a12) (seg_S 1 _ e (fin (a0) (a1) (a2) (a3) (a4) (a5) (a6) (a7) (a8) (some (.imm (.int 4))) (a10) y11 (some (.imm (.int 9))) (some (.imm (.int 5))) (some (.imm (.int 2))) (some (.imm (.tuple [(.int 4)]))) (some (.imm (.int 2))) (some (.imm (.int 1))) (some (.own (.lst [(.int 2), (.int 4)]))) (some (.imm (.int 1))) (some (.imm (.int 4))) y21))⟩
theorem n6 (a0 a1 a2 a3 a4 a5 a6 a7 a8 a9 a10 a11 a12 : OL) : denS Cl gc false Wd (takeS 9 (dropS 9 B)) [a0, a1, a2, a3, a4, a5, a6, a7, a8, a9, a10, a11, a12, some (.imm (.int 6)), none, none, none, none, none, none, none, none, none, none] = .next [a0, a1, a2, a3, a4, a5, a6, a7, a8, some (.imm (.int 2)), a10, a11, some (.imm (.int 5)), some (.imm (.int 6)), some (.imm (.int 2)), some (.imm (.tuple [(.int 2), (.int 4)])), some (.imm (.int 2)), some (.imm (.int 2)), some (.own (.lst [(.int 2), (.int 2), (.int 4)])), some (.imm (.int 2)), some (.imm (.int 4)), none, none, none] := by kernel_rfl
theorem c6 : chkW 6 1 = true := by kernel_rfl
theorem m6 (a0 a1 a2 a3 a4 a5 a6 a7 a8 a9 a10 a11 a12 : OL) : ∃ L1, denS Cl gc false Wd (dropS 9 B) [a0, a1, a2, a3, a4, a5, a6, a7, a8, a9, a10, a11, a12, some (.imm (.int 6)), none, none, none, none, none, none, none, none, none, none] = .ret (.imm (.bool true)) L1 := by
  obtain ⟨y11, y21, e⟩ := wfor (m := 6) (c := 1) (mi := 6) (v := 2) rfl (by decide) (by decide) (by decide) c6 (a0) (a1) (a2) (a3) (a4) (a5) (a6) (a7) (a8) (a10) (some (.imm (.int 5))) (some (.imm (.int 2))) (some (.imm (.tuple [(.int 2), (.int 4)]))) (some (.imm (.int 2))) (some (.imm (.int 2))) (some (.own (.lst [(.int 2), (.int 2), (.int 4)]))) (some (.imm (.int 2))) (some (.imm (.int 4))) (a11) none
  exact ⟨_, seg_S 9 _ (n6 a0 a1 a2 a3 a4 a5 a6 a7 a8 a9 a10 a11 a12) (seg_S 1 _ e (fin (a0) (a1) (a2) (a3) (a4) (a5) (a6) (a7) (a8) (some (.imm (.int 2))) (a10) y11 (some (.imm (.int 5))) (some (.imm (.int 6))) (some (.imm (.int 2))) (some (.imm (.tuple [(.int 2), (.int 4)]))) (some (.imm (.int 2))) (some (.imm (.int 2))) (some (.own (.lst [(.int 2), (.int 2), (.int 4)]))) (some (.imm (.int 2))) (some (.imm (.int 4))) y21))⟩
theorem n7 (a0 a1 a2 a3 a4 a5 a6 a7 a8 a9 a10 a11 a12 : OL) : denS Cl gc false Wd (takeS 9 (dropS 9 B)) [a0, a1, a2, a3, a4, a5, a6, a7, a8, a9, a10, a11, a12, some (.imm (.int 7)), none, none, none, none, none, none, none, none, none, none] = .next [a0, a1, a2, a3, a4, a5, a6, a7, a8, some (.imm (.int 3)), a10, a11, some (.imm (.int 8)), some (.imm (.int 7)), some (.imm (.int 2)), some (.imm (.tuple [(.int 1), (.int 1), (.int 1), (.int 4)])), some (.imm (.int 2)), some (.imm (.int 3)), some (.own (.lst [(.int 2), (.int 1), (.int 1), (.int 1), (.int 4)])), some (.imm (.int 4)), some (.imm (.int 4)), none, none, none] := by kernel_rfl
theorem c7 : chkW 7 2 = true := by kernel_rfl
theorem m7 (a0 a1 a2 a3 a4 a5 a6 a7 a8 a9 a10 a11 a12 : OL) : ∃ L1, denS Cl gc false Wd (dropS 9 B) [a0, a1, a2, a3, a4, a5, a6, a7, a8, a9, a10, a11, a12, some (.imm (.int 7)), none, none, none, none, none, none, none, none, none, none] = .ret (.imm (.bool true)) L1 := by
  obtain ⟨y11, y21, e⟩ := wfor (m := 7) (c := 2) (mi := 7) (v := 3) rfl (by decide) (by decide) (by decide) c7 (a0) (a1) (a2) (a3) (a4) (a5) (a6) (a7) (a8) (a10) (some (.imm (.int 8))) (some (.imm (.int 2))) (some (.imm (.tuple [(.int 1), (.int 1), (.int 1), (.int 4)]))) (some (.imm (.int 2))) (some (.imm (.int 3))) (some (.own (.lst [(.int 2), (.int 1), (.int 1), (.int 1), (.int 4)]))) (some (.imm (.int 4))) (some (.imm (.int 4))) (a11) none
  exact ⟨_, seg_S 9 _ (n7 a0 a1 a2 a3 a4 a5 a6 a7 a8 a9 a10 a11 a12) (seg_S 1 _ e (fin (a0) (a1) (a2) (a3) (a4) (a5) (a6) (a7) (a8) (some (.imm (.int 3))) (a10) y11 (some (.imm (.int 8))) (some (.imm (.int 7))) (some (.imm (.int 2))) (some (.imm (.tuple [(.int 1), (.int 1), (.int 1), (.int 4)]))) (some (.imm (.int 2))) (some (.imm (.int 3))) (some (.own (.lst [(.int 2), (.int 1), (.int 1), (.int 1), (.int 4)]))) (some (.imm (.int 4))) (some (.imm (.int 4))) y21))⟩
theorem n8 (a0 a1 a2 a3 a4 a5 a6 a7 a8 a9 a10 a11 a12 : OL) : denS Cl gc false Wd (takeS 9 (dropS 9 B)) [a0, a1, a2, a3, a4, a5, a6, a7, a8, a9, a10, a11, a12, some (.imm (.int 8)), none, none, none, none, none, none, none, none, none, none] = .next [a0, a1, a2, a3, a4, a5, a6, a7, a8, some (.imm (.int 1)), a10, a11, some (.imm (.int 3)), some (.imm (.int 8)), some (.imm (.int 2)), some (.imm (.tuple [(.int 1), (.int 4)])), some (.imm (.int 2)), some (.imm (.int 4)), some (.own (.lst [(.int 2), (.int 1), (.int 4)])), some (.imm (.int 2)), some (.imm (.int 4)), none, none, none] := by kernel_rfl
theorem c8 : chkW 8 0 = true := by kernel_rfl
theorem m8 (a0 a1 a2 a3 a4 a5 a6 a7 a8 a9 a10 a11 a12 : OL) : ∃ L1, denS Cl gc false Wd (dropS 9 B) [a0, a1, a2, a3, a4, a5, a6, a7, a8, a9, a10, a11, a12, some (.imm (.int 8)), none, none, none, none, none, none, none, none, none, none] = .ret (.imm (.bool true)) L1 := by
  obtain ⟨y11, y21, e⟩ := wfor (m := 8) (c := 0) (mi := 8) (v := 1) rfl (by decide) (by decide) (by decide) c8 (a0) (a1) (a2) (a3) (a4) (a5) (a6) (a7) (a8) (a10) (some (.imm (.int 3))) (some (.imm (.int 2))) (some (.imm (.tuple [(.int 1), (.int 4)]))) (some (.imm (.int 2))) (some (.imm (.int 4))) (some (.own (.lst [(.int 2), (.int 1), (.int 4)]))) (some (.imm (.int 2))) (some (.imm (.int 4))) (a11) none
  exact ⟨_, seg_S 9 _ (n8 a0 a1 a2 a3 a4 a5 a6 a7 a8 a9 a10 a11 a12) (seg_S 1 _ e (fin (a0) (a1) (a2) (a3) (a4) (a5) (a6) (a7) (a8) (some (.imm (.int 1))) (a10) y11 (some (.imm (.int 3))) (some (.imm (.int 8))) (some (.imm (.int 2))) (some (.imm (.tuple [(.int 1), (.int 4)]))) (some (.imm (.int 2))) (some (.imm (.int 4))) (some (.own (.lst [(.int 2), (.int 1), (.int 4)]))) (some (.imm (.int 2))) (some (.imm (.int 4))) y21))⟩
theorem m9 (a0 a1 a2 a3 a4 a5 a6 a7 a8 a9 a10 a11 a12 : OL) : ∃ L1, denS Cl gc false Wd (dropS 9 B) [a0, a1, a2, a3, a4, a5, a6, a7, a8, a9, a10, a11, a12, some (.imm (.int 9)), none, none, none, none, none, none, none, none, none, none] = .ret (.imm (.bool true)) L1 := ⟨[a0, a1, a2, a3, a4, a5, a6, a7, a8, a9, a10, a11, a12, some (.imm (.int 9)), none, none, none, none, none, none, none, none, none, none], by kernel_rfl⟩
theorem n10 (a0 a1 a2 a3 a4 a5 a6 a7 a8 a9 a10 a11 a12 : OL) : denS Cl gc false Wd (takeS 9 (dropS 9 B)) [a0, a1, a2, a3, a4, a5, a6, a7, a8, a9, a10, a11, a12, some (.imm (.int 10)), none, none, none, none, none, none, none, none, none, none] = .next [a0, a1, a2, a3, a4, a5, a6, a7, a8, some (.imm (.int 6)), a10, a11, some (.imm (.int 19)), some (.imm (.int 10)), some (.imm (.int 3)), some (.imm (.tuple [(.int 6)])), some (.imm (.int 3)), some (.imm (.int 1)), some (.own (.lst [(.int 3), (.int 6)])), some (.imm (.int 1)), some (.imm (.int 6)), none, none, none] := by kernel_rfl
theorem c10 : chkW 10 5 = true := by kernel_rfl
theorem m10 (a0 a1 a2 a3 a4 a5 a6 a7 a8 a9 a10 a11 a12 : OL) : ∃ L1, denS Cl gc false Wd (dropS 9 B) [a0, a1, a2, a3, a4, a5, a6, a7, a8, a9, a10, a11, a12, some (.imm (.int 10)), none, none, none, none, none, none, none, none, none, none] = .ret (.imm (.bool true)) L1 := by
  obtain ⟨y11, y21, e⟩ := wfor (m := 10) (c := 5) (mi := 10) (v := 6) rfl (by decide) (by decide) (by decide) c10 (a0) (a1) (a2) (a3) (a4) (a5) (a6) (a7) (a8) (a10) (some (.imm (.int 19))) (some (.imm (.int 3))) (some (.imm (.tuple [(.int 6)]))) (some (.imm (.int 3))) (some (.imm (.int 1))) (some (.own (.lst [(.int 3), (.int 6)]))) (some (.imm (.int 1))) (some (.imm (.int 6))) (a11) none
  exact ⟨_, seg_S 9 _ (n10 a0 a1 a2 a3 a4 a5 a6 a7 a8 a9 a10 a11 a12) (seg_S 1 _ e (fin (a0) (a1) (a2) (a3) (a4) (a5) (a6) (a7) (a8) (some (.imm (.int 6))) (a10) y11 (some (.imm (.int 19))) (some (.imm (.int 10))) (some (.imm (.int 3))) (some (.imm (.tuple [(.int 6)]))) (some (.imm (.int 3))) (some (.imm (.int 1))) (some (.own (.lst [(.int 3), (.int 6)]))) (some (.imm (.int 1))) (some (.imm (.int 6))) y21))⟩
theorem n11 (a0 a1 a2 a3 a4 a5 a6 a7 a8 a9 a10 a11 a12 : OL) : denS Cl gc false Wd (takeS 9 (dropS 9 B)) [a0, a1, a2, a3, a4, a5, a6, a7, a8, a9, a10, a11, a12, some (.imm (.int 11)), none, none, none, none, none, none, none, none, none, none] = .next [a0, a1, a2, a3, a4, a5, a6, a7, a8, some (.imm (.int 3)), a10, a11, some (.imm (.int 10)), some (.imm (.int 11)), some (.imm (.int 3)), some (.imm (.tuple [(.int 3), (.int 6)])), some (.imm (.int 3)), some (.imm (.int 2)), some (.own (.lst [(.int 3), (.int 3), (.int 6)])), some (.imm (.int 2)), some (.imm (.int 6)), none, none, none] := by kernel_rfl
theorem c11 : chkW 11 2 = true := by kernel_rfl
theorem m11 (a0 a1 a2 a3 a4 a5 a6 a7 a8 a9 a10 a11 a12 : OL) : ∃ L1, denS Cl gc false Wd (dropS 9 B) [a0, a1, a2, a3, a4, a5, a6, a7, a8, a9, a10, a11, a12, some (.imm (.int 11)), none, none, none, none, none, none, none, none, none, none] = .ret (.imm (.bool true)) L1 := by
  obtain ⟨y11, y21, e⟩ := wfor (m := 11) (c := 2) (mi := 11) (v := 3) rfl (by decide) (by decide) (by decide) c11 (a0) (a1) (a2) (a3) (a4) (a5) (a6) (a7) (a8) (a10) (some (.imm (.int 10))) (some (.imm (.int 3))) (some (.imm (.tuple [(.int 3), (.int 6)]))) (some (.imm (.int 3))) (some (.imm (.int 2))) (some (.own (.lst [(.int 3), (.int 3), (.int 6)]))) (some (.imm (.int 2))) (some (.imm (.int 6))) (a11) none
  exact ⟨_, seg_S 9 _ (n11 a0 a1 a2 a3 a4 a5 a6 a7 a8 a9 a10 a11 a12) (seg_S 1 _ e (fin (a0) (a1) (a2) (a3) (a4) (a5) (a6) (a7) (a8) (some (.imm (.int 3))) (a10) y11 (some (.imm (.int 10))) (some (.imm (.int 11))) (some (.imm (.int 3))) (some (.imm (.tuple [(.int 3), (.int 6)]))) (some (.imm (.int 3))) (some (.imm (.int 2))) (some (.own (.lst [(.int 3), (.int 3), (.int 6)]))) (some (.imm (.int 2))) (some (.imm (.int 6))) y21))⟩
theorem n12 (a0 a1 a2 a3 a4 a5 a6 a7 a8 a9 a10 a11 a12 : OL) : denS Cl gc false Wd (takeS 9 (dropS 9 B)) [a0, a1, a2, a3, a4, a5, a6, a7, a8, a9, a10, a11, a12, some (.imm (.int 12)), none, none, none, none, none, none, none, none, none, none] = .next [a0, a1, a2, a3, a4, a5, a6, a7, a8, some (.imm (.int 2)), a10, a11, some (.imm (.int 7)), some (.imm (.int 12)), some (.imm (.int 3)), some (.imm (.tuple [(.int 2), (.int 6)])), some (.imm (.int 3)), some (.imm (.int 3)), some (.own (.lst [(.int 3), (.int 2), (.int 6)])), some (.imm (.int 2)), some (.imm (.int 6)), none, none, none] := by kernel_rfl
theorem c12 : chkW 12 1 = true := by kernel_rfl
theorem m12 (a0 a1 a2 a3 a4 a5 a6 a7 a8 a9 a10 a11 a12 : OL) : ∃ L1, denS Cl gc false Wd (dropS 9 B) [a0, a1, a2, a3, a4, a5, a6, a7, a8, a9, a10, a11, a12, some (.imm (.int 12)), none, none, none, none, none, none, none, none, none, none] = .ret (.imm (.bool true)) L1 := by
  obtain ⟨y11, y21, e⟩ := wfor (m := 12) (c := 1) (mi := 12) (v := 2) rfl (by decide) (by decide) (by decide) c12 (a0) (a1) (a2) (a3) (a4) (a5) (a6) (a7) (a8) (a10) (some (.imm (.int 7))) (some (.imm (.int 3))) (some (.imm (.tuple [(.int 2), (.int 6)]))) (some (.imm (.int 3))) (some (.imm (.int 3))) (some (.own (.lst [(.int 3), (.int 2), (.int 6)]))) (some (.imm (.int 2))) (some (.imm (.int 6))) (a11) none
  exact ⟨_, seg_S 9 _ (n12 a0 a1 a2 a3 a4 a5 a6 a7 a8 a9 a10 a11 a12) (seg_S 1 _ e (fin (a0) (a1) (a2) (a3) (a4) (a5) (a6) (a7) (a8) (some (.imm (.int 2))) (a10) y11 (some (.imm (.int 7))) (some (.imm (.int 12))) (some (.imm (.int 3))) (some (.imm (.tuple [(.int 2), (.int 6)]))) (some (.imm (.int 3))) (some (.imm (.int 3))) (some (.own (.lst [(.int 3), (.int 2), (.int 6)]))) (some (.imm (.int 2))) (some (.imm (.int 6))) y21))⟩
theorem n13 (a0 a1 a2 a3 a4 a5 a6 a7 a8 a9 a10 a11 a12 : OL) : denS Cl gc false Wd (takeS 9 (dropS 9 B)) [a0, a1, a2, a3, a4, a5, a6, a7, a8, a9, a10, a11, a12, some (.imm (.int 13)), none, none, none, none, none, none, none, none, none, none] = .next [a0, a1, a2, a3, a4, a5, a6, a7, a8, some (.imm (.int 180)), a10, a11, some (.imm (.int 649)), some (.imm (.int 13)), some (.imm (.int 3)), some (.imm (.tuple [(.int 1), (.int 1), (.int 1), (.int 1), (.int 6)])), some (.imm (.int 3)), some (.imm (.int 4)), some (.own (.lst [(.int 3), (.int 1), (.int 1), (.int 1), (.int 1), (.int 6)])), some (.imm (.int 5)), some (.imm (.int 6)), none, none, none] := by kernel_rfl
theorem c13 : chkW 13 179 = true := by kernel_rfl
theorem m13 (a0 a1 a2 a3 a4 a5 a6 a7 a8 a9 a10 a11 a12 : OL) : ∃ L1, denS Cl gc false Wd (dropS 9 B) [a0, a1, a2, a3, a4, a5, a6, a7, a8, a9, a10, a11, a12, some (.imm (.int 13)), none, none, none, none, none, none, none, none, none, none] = .ret (.imm (.bool true)) L1 := by
  obtain ⟨y11, y21, e⟩ := wfor (m := 13) (c := 179) (mi := 13) (v := 180) rfl (by decide) (by decide) (by decide) c13 (a0) (a1) (a2) (a3) (a4) (a5) (a6) (a7) (a8) (a10) (some (.imm (.int 649))) (some (.imm (.int 3))) (some (.imm (.tuple [(.int 1), (.int 1), (.int 1), (.int 1), (.int 6)]))) (some (.imm (.int 3))) (some (.imm (.int 4))) (some (.own (.lst [(.int 3), (.int 1), (.int 1), (.int 1), (.int 1), (.int 6)]))) (some (.imm (.int 5))) (some (.imm (.int 6))) (a11) none
  exact ⟨_, seg_S 9 _ (n13 a0 a1 a2 a3 a4 a5 a6 a7 a8 a9 a10 a11 a12) (seg_S 1 _ e (fin (a0) (a1) (a2) (a3) (a4) (a5) (a6) (a7) (a8) (some (.imm (.int 180))) (a10) y11 (some (.imm (.int 649))) (some (.imm (.int 13))) (some (.imm (.int 3))) (some (.imm (.tuple [(.int 1), (.int 1), (.int 1), (.int 1), (.int 6)]))) (some (.imm (.int 3))) (some (.imm (.int 4))) (some (.own (.lst [(.int 3), (.int 1), (.int 1), (.int 1), (.int 1), (.int 6)]))) (some (.imm (.int 5))) (some (.imm (.int 6))) y21))⟩
theorem n14 (a0 a1 a2 a3 a4 a5 a6 a7 a8 a9 a10 a11 a12 : OL) : denS Cl gc false Wd (takeS 9 (dropS 9 B)) [a0, a1, a2, a3, a4, a5, a6, a7, a8, a9, a10, a11, a12, some (.imm (.int 14)), none, none, none, none, none, none, none, none, none, none] = .next [a0, a1, a2, a3, a4, a5, a6, a7, a8, some (.imm (.int 4)), a10, a11, some (.imm (.int 15)), some (.imm (.int 14)), some (.imm (.int 3)), some (.imm (.tuple [(.int 1), (.int 2), (.int 1), (.int 6)])), some (.imm (.int 3)), some (.imm (.int 5)), some (.own (.lst [(.int 3), (.int 1), (.int 2), (.int 1), (.int 6)])), some (.imm (.int 4)), some (.imm (.int 6)), none, none, none] := by kernel_rfl
theorem c14 : chkW 14 3 = true := by kernel_rfl
theorem m14 (a0 a1 a2 a3 a4 a5 a6 a7 a8 a9 a10 a11 a12 : OL) : ∃ L1, denS Cl gc false Wd (dropS 9 B) [a0, a1, a2, a3, a4, a5, a6, a7, a8, a9, a10, a11, a12, some (.imm (.int 14)), none, none, none, none, none, none, none, none, none, none] = .ret (.imm (.bool true)) L1 := by
  obtain ⟨y11, y21, e⟩ := wfor (m := 14) (c := 3) (mi := 14) (v := 4) rfl (by decide) (by decide) (by decide) c14 (a0) (a1) (a2) (a3) (a4) (a5) (a6) (a7) (a8) (a10) (some (.imm (.int 15))) (some (.imm (.int 3))) (some (.imm (.tuple [(.int 1), (.int 2), (.int 1), (.int 6)]))) (some (.imm (.int 3))) (some (.imm (.int 5))) (some (.own (.lst [(.int 3), (.int 1), (.int 2), (.int 1), (.int 6)]))) (some (.imm (.int 4))) (some (.imm (.int 6))) (a11) none
  exact ⟨_, seg_S 9 _ (n14 a0 a1 a2 a3 a4 a5 a6 a7 a8 a9 a10 a11 a12) (seg_S 1 _ e (fin (a0) (a1) (a2) (a3) (a4) (a5) (a6) (a7) (a8) (some (.imm (.int 4))) (a10) y11 (some (.imm (.int 15))) (some (.imm (.int 14))) (some (.imm (.int 3))) (some (.imm (.tuple [(.int 1), (.int 2), (.int 1), (.int 6)]))) (some (.imm (.int 3))) (some (.imm (.int 5))) (some (.own (.lst [(.int 3), (.int 1), (.int 2), (.int 1), (.int 6)]))) (some (.imm (.int 4))) (some (.imm (.int 6))) y21))⟩
theorem n15 (a0 a1 a2 a3 a4 a5 a6 a7 a8 a9 a10 a11 a12 : OL) : denS Cl gc false Wd (takeS 9 (dropS 9 B)) [a0, a1, a2, a3, a4, a5, a6, a7, a8, a9, a10, a11, a12, some (.imm (.int 15)), none, none, none, none, none, none, none, none, none, none] = .next [a0, a1, a2, a3, a4, a5, a6, a7, a8, some (.imm (.int 1)), a10, a11, some (.imm (.int 4)), some (.imm (.int 15)), some (.imm (.int 3)), some (.imm (.tuple [(.int 1), (.int 6)])), some (.imm (.int 3)), some (.imm (.int 6)), some (.own (.lst [(.int 3), (.int 1), (.int 6)])), some (.imm (.int 2)), some (.imm (.int 6)), none, none, none] := by kernel_rfl
theorem c15 : chkW 15 0 = true := by kernel_rfl
theorem m15 (a0 a1 a2 a3 a4 a5 a6 a7 a8 a9 a10 a11 a12 : OL) : ∃ L1, denS Cl gc false Wd (dropS 9 B) [a0, a1, a2, a3, a4, a5, a6, a7, a8, a9, a10, a11, a12, some (.imm (.int 15)), none, none, none, none, none, none, none, none, none, none] = .ret (.imm (.bool true)) L1 := by
  obtain ⟨y11, y21, e⟩ := wfor (m := 15) (c := 0) (mi := 15) (v := 1) rfl (by decide) (by decide) (by decide) c15 (a0) (a1) (a2) (a3) (a4) (a5) (a6) (a7) (a8) (a10) (some (.imm (.int 4))) (some (.imm (.int 3))) (some (.imm (.tuple [(.int 1), (.int 6)]))) (some (.imm (.int 3))) (some (.imm (.int 6))) (some (.own (.lst [(.int 3), (.int 1), (.int 6)]))) (some (.imm (.int 2))) (some (.imm (.int 6))) (a11) none
  exact ⟨_, seg_S 9 _ (n15 a0 a1 a2 a3 a4 a5 a6 a7 a8 a9 a10 a11 a12) (seg_S 1 _ e (fin (a0) (a1) (a2) (a3) (a4) (a5) (a6) (a7) (a8) (some (.imm (.int 1))) (a10) y11 (some (.imm (.int 4))) (some (.imm (.int 15))) (some (.imm (.int 3))) (some (.imm (.tuple [(.int 1), (.int 6)]))) (some (.imm (.int 3))) (some (.imm (.int 6))) (some (.own (.lst [(.int 3), (.int 1), (.int 6)]))) (some (.imm (.int 2))) (some (.imm (.int 6))) y21))⟩
theorem m16 (a0 a1 a2 a3 a4 a5 a6 a7 a8 a9 a10 a11 a12 : OL) : ∃ L1, denS Cl gc false Wd (dropS 9 B) [a0, a1, a2, a3, a4, a5, a6, a7, a8, a9, a10, a11, a12, some (.imm (.int 16)), none, none, none, none, none, none, none, none, none, none] = .ret (.imm (.bool true)) L1 := ⟨[a0, a1, a2, a3, a4, a5, a6, a7, a8, a9, a10, a11, a12, some (.imm (.int 16)), none, none, none, none, none, none, none, none, none, none], by kernel_rfl⟩
theorem n17 (a0 a1 a2 a3 a4 a5 a6 a7 a8 a9 a10 a11 a12 : OL) : denS Cl gc false Wd (takeS 9 (dropS 9 B)) [a0, a1, a2, a3, a4, a5, a6, a7, a8, a9, a10, a11, a12, some (.imm (.int 17)), none, none, none, none, none, none, none, none, none, none] = .next [a0, a1, a2, a3, a4, a5, a6, a7, a8, some (.imm (.int 8)), a10, a11, some (.imm (.int 33)), some (.imm (.int 17)), some (.imm (.int 4)), some (.imm (.tuple [(.int 8)])), some (.imm (.int 4)), some (.imm (.int 1)), some (.own (.lst [(.int 4), (.int 8)])), some (.imm (.int 1)), some (.imm (.int 8)), none, none, none] := by kernel_rfl
theorem c17 : chkW 17 7 = true := by kernel_rfl
theorem m17 (a0 a1 a2 a3 a4 a5 a6 a7 a8 a9 a10 a11 a12 : OL) : ∃ L1, denS Cl gc false Wd (dropS 9 B) [a0, a1, a2, a3, a4, a5, a6, a7, a8, a9, a10, a11, a12, some (.imm (.int 17)), none, none, none, none, none, none, none, none, none, none] = .ret (.imm (.bool true)) L1 := by
  obtain ⟨y11, y21, e⟩ := wfor (m := 17) (c := 7) (mi := 17) (v := 8) rfl (by decide) (by decide) (by decide) c17 (a0) (a1) (a2) (a3) (a4) (a5) (a6) (a7) (a8) (a10) (some (.imm (.int 33))) (some (.imm (.int 4))) (some (.imm (.tuple [(.int 8)]))) (some (.imm (.int 4))) (some (.imm (.int 1))) (some (.own (.lst [(.int 4), (.int 8)]))) (some (.imm (.int 1))) (some (.imm (.int 8))) (a11) none
  exact ⟨_, seg_S 9 _ (n17 a0 a1 a2 a3 a4 a5 a6 a7 a8 a9 a10 a11 a12) (seg_S 1 _ e (fin (a0) (a1) (a2) (a3) (a4) (a5) (a6) (a7) (a8) (some (.imm (.int 8))) (a10) y11 (some (.imm (.int 33))) (some (.imm (.int 17))) (some (.imm (.int 4))) (some (.imm (.tuple [(.int 8)]))) (some (.imm (.int 4))) (some (.imm (.int 1))) (some (.own (.lst [(.int 4), (.int 8)]))) (some (.imm (.int 1))) (some (.imm (.int 8))) y21))⟩
theorem n18 (a0 a1 a2 a3 a4 a5 a6 a7 a8 a9 a10 a11 a12 : OL) : denS Cl gc false Wd (takeS 9 (dropS 9 B)) [a0, a1, a2, a3, a4, a5, a6, a7, a8, a9, a10, a11, a12, some (.imm (.int 18)), none, none, none, none, none, none, none, none, none, none] = .next [a0, a1, a2, a3, a4, a5, a6, a7, a8, some (.imm (.int 4)), a10, a11, some (.imm (.int 17)), some (.imm (.int 18)), some (.imm (.int 4)), some (.imm (.tuple [(.int 4), (.int 8)])), some (.imm (.int 4)), some (.imm (.int 2)), some (.own (.lst [(.int 4), (.int 4), (.int 8)])), some (.imm (.int 2)), some (.imm (.int 8)), none, none, none] := by kernel_rfl
theorem c18 : chkW 18 3 = true := by kernel_rfl
theorem m18 (a0 a1 a2 a3 a4 a5 a6 a7 a8 a9 a10 a11 a12 : OL) : ∃ L1, denS Cl gc false Wd (dropS 9 B) [a0, a1, a2, a3, a4, a5, a6, a7, a8, a9, a10, a11, a12, some (.imm (.int 18)), none, none, none, none, none, none, none, none, none, none] = .ret (.imm (.bool true)) L1 := by
  obtain ⟨y11, y21, e⟩ := wfor (m := 18) (c := 3) (mi := 18) (v := 4) rfl (by decide) (by decide) (by decide) c18 (a0) (a1) (a2) (a3) (a4) (a5) (a6) (a7) (a8) (a10) (some (.imm (.int 17))) (some (.imm (.int 4))) (some (.imm (.tuple [(.int 4), (.int 8)]))) (some (.imm (.int 4))) (some (.imm (.int 2))) (some (.own (.lst [(.int 4), (.int 4), (.int 8)]))) (some (.imm (.int 2))) (some (.imm (.int 8))) (a11) none
  exact ⟨_, seg_S 9 _ (n18 a0 a1 a2 a3 a4 a5 a6 a7 a8 a9 a10 a11 a12) (seg_S 1 _ e (fin (a0) (a1) (a2) (a3) (a4) (a5) (a6) (a7) (a8) (some (.imm (.int 4))) (a10) y11 (some (.imm (.int 17))) (some (.imm (.int 18))) (some (.imm (.int 4))) (some (.imm (.tuple [(.int 4), (.int 8)]))) (some (.imm (.int 4))) (some (.imm (.int 2))) (some (.own (.lst [(.int 4), (.int 4), (.int 8)]))) (some (.imm (.int 2))) (some (.imm (.int 8))) y21))⟩
theorem n19 (a0 a1 a2 a3 a4 a5 a6 a7 a8 a9 a10 a11 a12 : OL) : denS Cl gc false Wd (takeS 9 (dropS 9 B)) [a0, a1, a2, a3, a4, a5, a6, a7, a8, a9, a10, a11, a12, some (.imm (.int 19)), none, none, none, none, none, none, none, none, none, none] = .next [a0, a1, a2, a3, a4, a5, a6, a7, a8, some (.imm (.int 39)), a10, a11, some (.imm (.int 170)), some (.imm (.int 19)), some (.imm (.int 4)), some (.imm (.tuple [(.int 2), (.int 1), (.int 3), (.int 1), (.int 2), (.int 8)])), some (.imm (.int 4)), some (.imm (.int 3)), some (.own (.lst [(.int 4), (.int 2), (.int 1), (.int 3), (.int 1), (.int 2), (.int 8)])), some (.imm (.int 6)), some (.imm (.int 8)), none, none, none] := by kernel_rfl
theorem c19 : chkW 19 38 = true := by kernel_rfl
theorem m19 (a0 a1 a2 a3 a4 a5 a6 a7 a8 a9 a10 a11 a12 : OL) : ∃ L1, denS Cl gc false Wd (dropS 9 B) [a0, a1, a2, a3, a4, a5, a6, a7, a8, a9, a10, a11, a12, some (.imm (.int 19)), none, none, none, none, none, none, none, none, none, none] = .ret (.imm (.bool true)) L1 := by
  obtain ⟨y11, y21, e⟩ := wfor (m := 19) (c := 38) (mi := 19) (v := 39) rfl (by decide) (by decide) (by decide) c19 (a0) (a1) (a2) (a3) (a4) (a5) (a6) (a7) (a8) (a10) (some (.imm (.int 170))) (some (.imm (.int 4))) (some (.imm (.tuple [(.int 2), (.int 1), (.int 3), (.int 1), (.int 2), (.int 8)]))) (some (.imm (.int 4))) (some (.imm (.int 3))) (some (.own (.lst [(.int 4), (.int 2), (.int 1), (.int 3), (.int 1), (.int 2), (.int 8)]))) (some (.imm (.int 6))) (some (.imm (.int 8))) (a11) none
  exact ⟨_, seg_S 9 _ (n19 a0 a1 a2 a3 a4 a5 a6 a7 a8 a9 a10 a11 a12) (seg_S 1 _ e (fin (a0) (a1) (a2) (a3) (a4) (a5) (a6) (a7) (a8) (some (.imm (.int 39))) (a10) y11 (some (.imm (.int 170))) (some (.imm (.int 19))) (some (.imm (.int 4))) (some (.imm (.tuple [(.int 2), (.int 1), (.int 3), (.int 1), (.int 2), (.int 8)]))) (some (.imm (.int 4))) (some (.imm (.int 3))) (some (.own (.lst [(.int 4), (.int 2), (.int 1), (.int 3), (.int 1), (.int 2), (.int 8)]))) (some (.imm (.int 6))) (some (.imm (.int 8))) y21))⟩
theorem n20 (a0 a1 a2 a3 a4 a5 a6 a7 a8 a9 a10 a11 a12 : OL) : denS Cl gc false Wd (takeS 9 (dropS 9 B)) [a0, a1, a2, a3, a4, a5, a6, a7, a8, a9, a10, a11, a12, some (.imm (.int 20)), none, none, none, none, none, none, none, none, none, none] = .next [a0, a1, a2, a3, a4, a5, a6, a7, a8, some (.imm (.int 2)), a10, a11, some (.imm (.int 9)), some (.imm (.int 20)), some (.imm (.int 4)), some (.imm (.tuple [(.int 2), (.int 8)])), some (.imm (.int 4)), some (.imm (.int 4)), some (.own (.lst [(.int 4), (.int 2), (.int 8)])), some (.imm (.int 2)), some (.imm (.int 8)), none, none, none] := by kernel_rfl
theorem c20 : chkW 20 1 = true := by kernel_rfl
theorem m20 (a0 a1 a2 a3 a4 a5 a6 a7 a8 a9 a10 a11 a12 : OL) : ∃ L1, denS Cl gc false Wd (dropS 9 B) [a0, a1, a2, a3, a4, a5, a6, a7, a8, a9, a10, a11, a12, some (.imm (.int 20)), none, none, none, none, none, none, none, none, none, none] = .ret (.imm (.bool true)) L1 := by
  obtain ⟨y11, y21, e⟩ := wfor (m := 20) (c := 1) (mi := 20) (v := 2) rfl (by decide) (by decide) (by decide) c20 (a0) (a1) (a2) (a3) (a4) (a5) (a6) (a7) (a8) (a10) (some (.imm (.int 9))) (some (.imm (.int 4))) (some (.imm (.tuple [(.int 2), (.int 8)]))) (some (.imm (.int 4))) (some (.imm (.int 4))) (some (.own (.lst [(.int 4), (.int 2), (.int 8)]))) (some (.imm (.int 2))) (some (.imm (.int 8))) (a11) none
  exact ⟨_, seg_S 9 _ (n20 a0 a1 a2 a3 a4 a5 a6 a7 a8 a9 a10 a11 a12) (seg_S 1 _ e (fin (a0) (a1) (a2) (a3) (a4) (a5) (a6) (a7) (a8) (some (.imm (.int 2))) (a10) y11 (some (.imm (.int 9))) (some (.imm (.int 20))) (some (.imm (.int 4))) (some (.imm (.tuple [(.int 2), (.int 8)]))) (some (.imm (.int 4))) (some (.imm (.int 4))) (some (.own (.lst [(.int 4), (.int 2), (.int 8)]))) (some (.imm (.int 2))) (some (.imm (.int 8))) y21))⟩
theorem n21 (a0 a1 a2 a3 a4 a5 a6 a7 a8 a9 a10 a11 a12 : OL) : denS Cl gc false Wd (takeS 9 (dropS 9 B)) [a0, a1, a2, a3, a4, a5, a6, a7, a8, a9, a10, a11, a12, some (.imm (.int 21)), none, none, none, none, none, none, none, none, none, none] = .next [a0, a1, a2, a3, a4, a5, a6, a7, a8, some (.imm (.int 12)), a10, a11, some (.imm (.int 55)), some (.imm (.int 21)), some (.imm (.int 4)), some (.imm (.tuple [(.int 1), (.int 1), (.int 2), (.int 1), (.int 1), (.int 8)])), some (.imm (.int 4)), some (.imm (.int 5)), some (.own (.lst [(.int 4), (.int 1), (.int 1), (.int 2), (.int 1), (.int 1), (.int 8)])), some (.imm (.int 6)), some (.imm (.int 8)), none, none, none] := by kernel_rfl
theorem c21 : chkW 21 11 = true := by kernel_rfl
theorem m21 (a0 a1 a2 a3 a4 a5 a6 a7 a8 a9 a10 a11 a12 : OL) : ∃ L1, denS Cl gc false Wd (dropS 9 B) [a0, a1, a2, a3, a4, a5, a6, a7, a8, a9, a10, a11, a12, some (.imm (.int 21)), none, none, none, none, none, none, none, none, none, none] = .ret (.imm (.bool true)) L1 := by
  obtain ⟨y11, y21, e⟩ := wfor (m := 21) (c := 11) (mi := 21) (v := 12) rfl (by decide) (by decide) (by decide) c21 (a0) (a1) (a2) (a3) (a4) (a5) (a6) (a7) (a8) (a10) (some (.imm (.int 55))) (some (.imm (.int 4))) (some (.imm (.tuple [(.int 1), (.int 1), (.int 2), (.int 1), (.int 1), (.int 8)]))) (some (.imm (.int 4))) (some (.imm (.int 5))) (some (.own (.lst [(.int 4), (.int 1), (.int 1), (.int 2), (.int 1), (.int 1), (.int 8)]))) (some (.imm (.int 6))) (some (.imm (.int 8))) (a11) none
  exact ⟨_, seg_S 9 _ (n21 a0 a1 a2 a3 a4 a5 a6 a7 a8 a9 a10 a11 a12) (seg_S 1 _ e (fin (a0) (a1) (a2) (a3) (a4) (a5) (a6) (a7) (a8) (some (.imm (.int 12))) (a10) y11 (some (.imm (.int 55))) (some (.imm (.int 21))) (some (.imm (.int 4))) (some (.imm (.tuple [(.int 1), (.int 1), (.int 2), (.int 1), (.int 1), (.int 8)]))) (some (.imm (.int 4))) (some (.imm (.int 5))) (some (.own (.lst [(.int 4), (.int 1), (.int 1), (.int 2), (.int 1), (.int 1), (.int 8)]))) (some (.imm (.int 6))) (some (.imm (.int 8))) y21))⟩
theorem n22 (a0 a1 a2 a3 a4 a5 a6 a7 a8 a9 a10 a11 a12 : OL) : denS Cl gc false Wd (takeS 9 (dropS 9 B)) [a0, a1, a2, a3, a4, a5, a6, a7, a8, a9, a10, a11, a12, some (.imm (.int 22)), none, none, none, none, none, none, none, none, none, none] = .next [a0, a1, a2, a3, a4, a5, a6, a7, a8, some (.imm (.int 42)), a10, a11, some (.imm (.int 197)), some (.imm (.int 22)), some (.imm (.int 4)), some (.imm (.tuple [(.int 1), (.int 2), (.int 4), (.int 2), (.int 1), (.int 8)])), some (.imm (.int 4)), some (.imm (.int 6)), some (.own (.lst [(.int 4), (.int 1), (.int 2), (.int 4), (.int 2), (.int 1), (.int 8)])), some (.imm (.int 6)), some (.imm (.int 8)), none, none, none] := by kernel_rfl
theorem c22 : chkW 22 41 = true := by kernel_rfl
theorem m22 (a0 a1 a2 a3 a4 a5 a6 a7 a8 a9 a10 a11 a12 : OL) : ∃ L1, denS Cl gc false Wd (dropS 9 B) [a0, a1, a2, a3, a4, a5, a6, a7, a8, a9, a10, a11, a12, some (.imm (.int 22)), none, none, none, none, none, none, none, none, none, none] = .ret (.imm (.bool true)) L1 := by
  obtain ⟨y11, y21, e⟩ := wfor (m := 22) (c := 41) (mi := 22) (v := 42) rfl (by decide) (by decide) (by decide) c22 (a0) (a1) (a2) (a3) (a4) (a5) (a6) (a7) (a8) (a10) (some (.imm (.int 197))) (some (.imm (.int 4))) (some (.imm (.tuple [(.int 1), (.int 2), (.int 4), (.int 2), (.int 1), (.int 8)]))) (some (.imm (.int 4))) (some (.imm (.int 6))) (some (.own (.lst [(.int 4), (.int 1), (.int 2), (.int 4), (.int 2), (.int 1), (.int 8)]))) (some (.imm (.int 6))) (some (.imm (.int 8))) (a11) none
  exact ⟨_, seg_S 9 _ (n22 a0 a1 a2 a3 a4 a5 a6 a7 a8 a9 a10 a11 a12) (seg_S 1 _ e (fin (a0) (a1) (a2) (a3) (a4) (a5) (a6) (a7) (a8) (some (.imm (.int 42))) (a10) y11 (some (.imm (.int 197))) (some (.imm (.int 22))) (some (.imm (.int 4))) (some (.imm (.tuple [(.int 1), (.int 2), (.int 4), (.int 2), (.int 1), (.int 8)]))) (some (.imm (.int 4))) (some (.imm (.int 6))) (some (.own (.lst [(.int 4), (.int 1), (.int 2), (.int 4), (.int 2), (.int 1), (.int 8)]))) (some (.imm (.int 6))) (some (.imm (.int 8))) y21))⟩
theorem n23 (a0 a1 a2 a3 a4 a5 a6 a7 a8 a9 a10 a11 a12 : OL) : denS Cl gc false Wd (takeS 9 (dropS 9 B)) [a0, a1, a2, a3, a4, a5, a6, a7, a8, a9, a10, a11, a12, some (.imm (.int 23)), none, none, none, none, none, none, none, none, none, none] = .next [a0, a1, a2, a3, a4, a5, a6, a7, a8, some (.imm (.int 5)), a10, a11, some (.imm (.int 24)), some (.imm (.int 23)), some (.imm (.int 4)), some (.imm (.tuple [(.int 1), (.int 3), (.int 1), (.int 8)])), some (.imm (.int 4)), some (.imm (.int 7)), some (.own (.lst [(.int 4), (.int 1), (.int 3), (.int 1), (.int 8)])), some (.imm (.int 4)), some (.imm (.int 8)), none, none, none] := by kernel_rfl
theorem c23 : chkW 23 4 = true := by kernel_rfl
theorem m23 (a0 a1 a2 a3 a4 a5 a6 a7 a8 a9 a10 a11 a12 : OL) : ∃ L1, denS Cl gc false Wd (dropS 9 B) [a0, a1, a2, a3, a4, a5, a6, a7, a8, a9, a10, a11, a12, some (.imm (.int 23)), none, none, none, none, none, none, none, none, none, none] = .ret (.imm (.bool true)) L1 := by
  obtain ⟨y11, y21, e⟩ := wfor (m := 23) (c := 4) (mi := 23) (v := 5) rfl (by decide) (by decide) (by decide) c23 (a0) (a1) (a2) (a3) (a4) (a5) (a6) (a7) (a8) (a10) (some (.imm (.int 24))) (some (.imm (.int 4))) (some (.imm (.tuple [(.int 1), (.int 3), (.int 1), (.int 8)]))) (some (.imm (.int 4))) (some (.imm (.int 7))) (some (.own (.lst [(.int 4), (.int 1), (.int 3), (.int 1), (.int 8)]))) (some (.imm (.int 4))) (some (.imm (.int 8))) (a11) none
  exact ⟨_, seg_S 9 _ (n23 a0 a1 a2 a3 a4 a5 a6 a7 a8 a9 a10 a11 a12) (seg_S 1 _ e (fin (a0) (a1) (a2) (a3) (a4) (a5) (a6) (a7) (a8) (some (.imm (.int 5))) (a10) y11 (some (.imm (.int 24))) (some (.imm (.int 23))) (some (.imm (.int 4))) (some (.imm (.tuple [(.int 1), (.int 3), (.int 1), (.int 8)]))) (some (.imm (.int 4))) (some (.imm (.int 7))) (some (.own (.lst [(.int 4), (.int 1), (.int 3), (.int 1), (.int 8)]))) (some (.imm (.int 4))) (some (.imm (.int 8))) y21))⟩
theorem n24 (a0 a1 a2 a3 a4 a5 a6 a7 a8 a9 a10 a11 a12 : OL) : denS Cl gc false Wd (takeS 9 (dropS 9 B)) [a0, a1, a2, a3, a4, a5, a6, a7, a8, a9, a10, a11, a12, some (.imm (.int 24)), none, none, none, none, none, none, none, none, none, none] = .next [a0, a1, a2, a3, a4, a5, a6, a7, a8, some (.imm (.int 1)), a10, a11, some (.imm (.int 5)), some (.imm (.int 24)), some (.imm (.int 4)), some (.imm (.tuple [(.int 1), (.int 8)])), some (.imm (.int 4)), some (.imm (.int 8)), some (.own (.lst [(.int 4), (.int 1), (.int 8)])), some (.imm (.int 2)), some (.imm (.int 8)), none, none, none] := by kernel_rfl
theorem c24 : chkW 24 0 = true := by kernel_rfl
theorem m24 (a0 a1 a2 a3 a4 a5 a6 a7 a8 a9 a10 a11 a12 : OL) : ∃ L1, denS Cl gc false Wd (dropS 9 B) [a0, a1, a2, a3, a4, a5, a6, a7, a8, a9, a10, a11, a12, some (.imm (.int 24)), none, none, none, none, none, none, none, none, none, none] = .ret (.imm (.bool true)) L1 := by
  obtain ⟨y11, y21, e⟩ := wfor (m := 24) (c := 0) (mi := 24) (v := 1) rfl (by decide) (by decide) (by decide) c24 (a0) (a1) (a2) (a3) (a4) (a5) (a6) (a7) (a8) (a10) (some (.imm (.int 5))) (some (.imm (.int 4))) (some (.imm (.tuple [(.int 1), (.int 8)]))) (some (.imm (.int 4))) (some (.imm (.int 8))) (some (.own (.lst [(.int 4), (.int 1), (.int 8)]))) (some (.imm (.int 2))) (some (.imm (.int 8))) (a11) none
  exact ⟨_, seg_S 9 _ (n24 a0 a1 a2 a3 a4 a5 a6 a7 a8 a9 a10 a11 a12) (seg_S 1 _ e (fin (a0) (a1) (a2) (a3) (a4) (a5) (a6) (a7) (a8) (some (.imm (.int 1))) (a10) y11 (some (.imm (.int 5))) (some (.imm (.int 24))) (some (.imm (.int 4))) (some (.imm (.tuple [(.int 1), (.int 8)]))) (some (.imm (.int 4))) (some (.imm (.int 8))) (some (.own (.lst [(.int 4), (.int 1), (.int 8)]))) (some (.imm (.int 2))) (some (.imm (.int 8))) y21))⟩
theorem m25 (a0 a1 a2 a3 a4 a5 a6 a7 a8 a9 a10 a11 a12 : OL) : ∃ L1, denS Cl gc false Wd (dropS 9 B) [a0, a1, a2, a3, a4, a5, a6, a7, a8, a9, a10, a11, a12, some (.imm (.int 25)), none, none, none, none, none, none, none, none, none, none] = .ret (.imm (.bool true)) L1 := ⟨[a0, a1, a2, a3, a4, a5, a6, a7, a8, a9, a10, a11, a12, some (.imm (.int 25)), none, none, none, none, none, none, none, none, none, none], by kernel_rfl⟩
theorem n26 (a0 a1 a2 a3 a4 a5 a6 a7 a8 a9 a10 a11 a12 : OL) : denS Cl gc false Wd (takeS 9 (dropS 9 B)) [a0, a1, a2, a3, a4, a5, a6, a7, a8, a9, a10, a11, a12, some (.imm (.int 26)), none, none, none, none, none, none, none, none, none, none] = .next [a0, a1, a2, a3, a4, a5, a6, a7, a8, some (.imm (.int 10)), a10, a11, some (.imm (.int 51)), some (.imm (.int 26)), some (.imm (.int 5)), some (.imm (.tuple [(.int 10)])), some (.imm (.int 5)), some (.imm (.int 1)), some (.own (.lst [(.int 5), (.int 10)])), some (.imm (.int 1)), some (.imm (.int 10)), none, none, none] := by kernel_rfl
theorem c26 : chkW 26 9 = true := by kernel_rfl
theorem m26 (a0 a1 a2 a3 a4 a5 a6 a7 a8 a9 a10 a11 a12 : OL) : ∃ L1, denS Cl gc false Wd (dropS 9 B) [a0, a1, a2, a3, a4, a5, a6, a7, a8, a9, a10, a11, a12, some (.imm (.int 26)), none, none, none, none, none, none, none, none, none, none] = .ret (.imm (.bool true)) L1 := by
  obtain ⟨y11, y21, e⟩ := wfor (m := 26) (c := 9) (mi := 26) (v := 10) rfl (by decide) (by decide) (by decide) c26 (a0) (a1) (a2) (a3) (a4) (a5) (a6) (a7) (a8) (a10) (some (.imm (.int 51))) (some (.imm (.int 5))) (some (.imm (.tuple [(.int 10)]))) (some (.imm (.int 5))) (some (.imm (.int 1))) (some (.own (.lst [(.int 5), (.int 10)]))) (some (.imm (.int 1))) (some (.imm (.int 10))) (a11) none
  exact ⟨_, seg_S 9 _ (n26 a0 a1 a2 a3 a4 a5 a6 a7 a8 a9 a10 a11 a12) (seg_S 1 _ e (fin (a0) (a1) (a2) (a3) (a4) (a5) (a6) (a7) (a8) (some (.imm (.int 10))) (a10) y11 (some (.imm (.int 51))) (some (.imm (.int 26))) (some (.imm (.int 5))) (some (.imm (.tuple [(.int 10)]))) (some (.imm (.int 5))) (some (.imm (.int 1))) (some (.own (.lst [(.int 5), (.int 10)]))) (some (.imm (.int 1))) (some (.imm (.int 10))) y21))⟩
theorem n27 (a0 a1 a2 a3 a4 a5 a6 a7 a8 a9 a10 a11 a12 : OL) : denS Cl gc false Wd (takeS 9 (dropS 9 B)) [a0, a1, a2, a3, a4, a5, a6, a7, a8, a9, a10, a11, a12, some (.imm (.int 27)), none, none, none, none, none, none, none, none, none, none] = .next [a0, a1, a2, a3, a4, a5, a6, a7, a8, some (.imm (.int 5)), a10, a11, some (.imm (.int 26)), some (.imm (.int 27)), some (.imm (.int 5)), some (.imm (.tuple [(.int 5), (.int 10)])), some (.imm (.int 5)), some (.imm (.int 2)), some (.own (.lst [(.int 5), (.int 5), (.int 10)])), some (.imm (.int 2)), some (.imm (.int 10)), none, none, none] := by kernel_rfl
theorem c27 : chkW 27 4 = true := by kernel_rfl
theorem m27 (a0 a1 a2 a3 a4 a5 a6 a7 a8 a9 a10 a11 a12 : OL) : ∃ L1, denS Cl gc false Wd (dropS 9 B) [a0, a1, a2, a3, a4, a5, a6, a7, a8, a9, a10, a11, a12, some (.imm (.int 27)), none, none, none, none, none, none, none, none, none, none] = .ret (.imm (.bool true)) L1 := by
  obtain ⟨y11, y21, e⟩ := wfor (m := 27) (c := 4) (mi := 27) (v := 5) rfl (by decide) (by decide) (by decide) c27 (a0) (a1) (a2) (a3) (a4) (a5) (a6) (a7) (a8) (a10) (some (.imm (.int 26))) (some (.imm (.int 5))) (some (.imm (.tuple [(.int 5), (.int 10)]))) (some (.imm (.int 5))) (some (.imm (.int 2))) (some (.own (.lst [(.int 5), (.int 5), (.int 10)]))) (some (.imm (.int 2))) (some (.imm (.int 10))) (a11) none
  exact ⟨_, seg_S 9 _ (n27 a0 a1 a2 a3 a4 a5 a6 a7 a8 a9 a10 a11 a12) (seg_S 1 _ e (fin (a0) (a1) (a2) (a3) (a4) (a5) (a6) (a7) (a8) (some (.imm (.int 5))) (a10) y11 (some (.imm (.int 26))) (some (.imm (.int 27))) (some (.imm (.int 5))) (some (.imm (.tuple [(.int 5), (.int 10)]))) (some (.imm (.int 5))) (some (.imm (.int 2))) (some (.own (.lst [(.int 5), (.int 5), (.int 10)]))) (some (.imm (.int 2))) (some (.imm (.int 10))) y21))⟩
theorem n28 (a0 a1 a2 a3 a4 a5 a6 a7 a8 a9 a10 a11 a12 : OL) : denS Cl gc false Wd (takeS 9 (dropS 9 B)) [a0, a1, a2, a3, a4, a5, a6, a7, a8, a9, a10, a11, a12, some (.imm (.int 28)), none, none, none, none, none, none, none, none, none, none] = .next [a0, a1, a2, a3, a4, a5, a6, a7, a8, some (.imm (.int 24)), a10, a11, some (.imm (.int 127)), some (.imm (.int 28)), some (.imm (.int 5)), some (.imm (.tuple [(.int 3), (.int 2), (.int 3), (.int 10)])), some (.imm (.int 5)), some (.imm (.int 3)), some (.own (.lst [(.int 5), (.int 3), (.int 2), (.int 3), (.int 10)])), some (.imm (.int 4)), some (.imm (.int 10)), none, none, none] := by kernel_rfl
theorem c28 : chkW 28 23 = true := by kernel_rfl
theorem m28 (a0 a1 a2 a3 a4 a5 a6 a7 a8 a9 a10 a11 a12 : OL) : ∃ L1, denS Cl gc false Wd (dropS 9 B) [a0, a1, a2, a3, a4, a5, a6, a7, a8, a9, a10, a11, a12, some (.imm (.int 28)), none, none, none, none, none, none, none, none, none, none] = .ret (.imm (.bool true)) L1 := by
  obtain ⟨y11, y21, e⟩ := wfor (m := 28) (c := 23) (mi := 28) (v := 24) rfl (by decide) (by decide) (by decide) c28 (a0) (a1) (a2) (a3) (a4) (a5) (a6) (a7) (a8) (a10) (some (.imm (.int 127))) (some (.imm (.int 5))) (some (.imm (.tuple [(.int 3), (.int 2), (.int 3), (.int 10)]))) (some (.imm (.int 5))) (some (.imm (.int 3))) (some (.own (.lst [(.int 5), (.int 3), (.int 2), (.int 3), (.int 10)]))) (some (.imm (.int 4))) (some (.imm (.int 10))) (a11) none
  exact ⟨_, seg_S 9 _ (n28 a0 a1 a2 a3 a4 a5 a6 a7 a8 a9 a10 a11 a12) (seg_S 1 _ e (fin (a0) (a1) (a2) (a3) (a4) (a5) (a6) (a7) (a8) (some (.imm (.int 24))) (a10) y11 (some (.imm (.int 127))) (some (.imm (.int 28))) (some (.imm (.int 5))) (some (.imm (.tuple [(.int 3), (.int 2), (.int 3), (.int 10)]))) (some (.imm (.int 5))) (some (.imm (.int 3))) (some (.own (.lst [(.int 5), (.int 3), (.int 2), (.int 3), (.int 10)]))) (some (.imm (.int 4))) (some (.imm (.int 10))) y21))⟩
theorem n29 (a0 a1 a2 a3 a4 a5 a6 a7 a8 a9 a10 a11 a12 : OL) : denS Cl gc false Wd (takeS 9 (dropS 9 B)) [a0, a1, a2, a3, a4, a5, a6, a7, a8, a9, a10, a11, a12, some (.imm (.int 29)), none, none, none, none, none, none, none, none, none, none] = .next [a0, a1, a2, a3, a4, a5, a6, a7, a8, some (.imm (.int 1820)), a10, a11, some (.imm (.int 9801)), some (.imm (.int 29)), some (.imm (.int 5)), some (.imm (.tuple [(.int 2), (.int 1), (.int 1), (.int 2), (.int 10)])), some (.imm (.int 5)), some (.imm (.int 4)), some (.own (.lst [(.int 5), (.int 2), (.int 1), (.int 1), (.int 2), (.int 10)])), some (.imm (.int 5)), some (.imm (.int 10)), none, none, none] := by kernel_rfl
theorem c29 : chkW 29 1819 = true := by kernel_rfl
theorem m29 (a0 a1 a2 a3 a4 a5 a6 a7 a8 a9 a10 a11 a12 : OL) : ∃ L1, denS Cl gc false Wd (dropS 9 B) [a0, a1, a2, a3, a4, a5, a6, a7, a8, a9, a10, a11, a12, some (.imm (.int 29)), none, none, none, none, none, none, none, none, none, none] = .ret (.imm (.bool true)) L1 := by
  obtain ⟨y11, y21, e⟩ := wfor (m := 29) (c := 1819) (mi := 29) (v := 1820) rfl (by decide) (by decide) (by decide) c29 (a0) (a1) (a2) (a3) (a4) (a5) (a6) (a7) (a8) (a10) (some (.imm (.int 9801))) (some (.imm (.int 5))) (some (.imm (.tuple [(.int 2), (.int 1), (.int 1), (.int 2), (.int 10)]))) (some (.imm (.int 5))) (some (.imm (.int 4))) (some (.own (.lst [(.int 5), (.int 2), (.int 1), (.int 1), (.int 2), (.int 10)]))) (some (.imm (.int 5))) (some (.imm (.int 10))) (a11) none
  exact ⟨_, seg_S 9 _ (n29 a0 a1 a2 a3 a4 a5 a6 a7 a8 a9 a10 a11 a12) (seg_S 1 _ e (fin (a0) (a1) (a2) (a3) (a4) (a5) (a6) (a7) (a8) (some (.imm (.int 1820))) (a10) y11 (some (.imm (.int 9801))) (some (.imm (.int 29))) (some (.imm (.int 5))) (some (.imm (.tuple [(.int 2), (.int 1), (.int 1), (.int 2), (.int 10)]))) (some (.imm (.int 5))) (some (.imm (.int 4))) (some (.own (.lst [(.int 5), (.int 2), (.int 1), (.int 1), (.int 2), (.int 10)]))) (some (.imm (.int 5))) (some (.imm (.int 10))) y21))⟩
theorem n30 (a0 a1 a2 a3 a4 a5 a6 a7 a8 a9 a10 a11 a12 : OL) : denS Cl gc false Wd (takeS 9 (dropS 9 B)) [a0, a1, a2, a3, a4, a5, a6, a7, a8, a9, a10, a11, a12, some (.imm (.int 30)), none, none, none, none, none, none, none, none, none, none] = .next [a0, a1, a2, a3, a4, a5, a6, a7, a8, some (.imm (.int 2)), a10, a11, some (.imm (.int 11)), some (.imm (.int 30)), some (.imm (.int 5)), some (.imm (.tuple [(.int 2), (.int 10)])), some (.imm (.int 5)), some (.imm (.int 5)), some (.own (.lst [(.int 5), (.int 2), (.int 10)])), some (.imm (.int 2)), some (.imm (.int 10)), none, none, none] := by kernel_rfl
theorem c30 : chkW 30 1 = true := by kernel_rfl
theorem m30 (a0 a1 a2 a3 a4 a5 a6 a7 a8 a9 a10 a11 a12 : OL) : ∃ L1, denS Cl gc false Wd (dropS 9 B) [a0, a1, a2, a3, a4, a5, a6, a7, a8, a9, a10, a11, a12, some (.imm (.int 30)), none, none, none, none, none, none, none, none, none, none] = .ret (.imm (.bool true)) L1 := by
  obtain ⟨y11, y21, e⟩ := wfor (m := 30) (c := 1) (mi := 30) (v := 2) rfl (by decide) (by decide) (by decide) c30 (a0) (a1) (a2) (a3) (a4) (a5) (a6) (a7) (a8) (a10) (some (.imm (.int 11))) (some (.imm (.int 5))) (some (.imm (.tuple [(.int 2), (.int 10)]))) (some (.imm (.int 5))) (some (.imm (.int 5))) (some (.own (.lst [(.int 5), (.int 2), (.int 10)]))) (some (.imm (.int 2))) (some (.imm (.int 10))) (a11) none
  exact ⟨_, seg_S 9 _ (n30 a0 a1 a2 a3 a4 a5 a6 a7 a8 a9 a10 a11 a12) (seg_S 1 _ e (fin (a0) (a1) (a2) (a3) (a4) (a5) (a6) (a7) (a8) (some (.imm (.int 2))) (a10) y11 (some (.imm (.int 11))) (some (.imm (.int 30))) (some (.imm (.int 5))) (some (.imm (.tuple [(.int 2), (.int 10)]))) (some (.imm (.int 5))) (some (.imm (.int 5))) (some (.own (.lst [(.int 5), (.int 2), (.int 10)]))) (some (.imm (.int 2))) (some (.imm (.int 10))) y21))⟩
theorem n31 (a0 a1 a2 a3 a4 a5 a6 a7 a8 a9 a10 a11 a12 : OL) : denS Cl gc false Wd (takeS 9 (dropS 9 B)) [a0, a1, a2, a3, a4, a5, a6, a7, a8, a9, a10, a11, a12, some (.imm (.int 31)), none, none, none, none, none, none, none, none, none, none] = .next [a0, a1, a2, a3, a4, a5, a6, a7, a8, some (.imm (.int 273)), a10, a11, some (.imm (.int 1520)), some (.imm (.int 31)), some (.imm (.int 5)), some (.imm (.tuple [(.int 1), (.int 1), (.int 3), (.int 5), (.int 3), (.int 1), (.int 1), (.int 10)])), some (.imm (.int 5)), some (.imm (.int 6)), some (.own (.lst [(.int 5), (.int 1), (.int 1), (.int 3), (.int 5), (.int 3), (.int 1), (.int 1), (.int 10)])), some (.imm (.int 8)), some (.imm (.int 10)), none, none, none] := by kernel_rfl
theorem c31 : chkW 31 272 = true := by kernel_rfl
theorem m31 (a0 a1 a2 a3 a4 a5 a6 a7 a8 a9 a10 a11 a12 : OL) : ∃ L1, denS Cl gc false Wd (dropS 9 B) [a0, a1, a2, a3, a4, a5, a6, a7, a8, a9, a10, a11, a12, some (.imm (.int 31)), none, none, none, none, none, none, none, none, none, none] = .ret (.imm (.bool true)) L1 := by
  obtain ⟨y11, y21, e⟩ := wfor (m := 31) (c := 272) (mi := 31) (v := 273) rfl (by decide) (by decide) (by decide) c31 (a0) (a1) (a2) (a3) (a4) (a5) (a6) (a7) (a8) (a10) (some (.imm (.int 1520))) (some (.imm (.int 5))) (some (.imm (.tuple [(.int 1), (.int 1), (.int 3), (.int 5), (.int 3), (.int 1), (.int 1), (.int 10)]))) (some (.imm (.int 5))) (some (.imm (.int 6))) (some (.own (.lst [(.int 5), (.int 1), (.int 1), (.int 3), (.int 5), (.int 3), (.int 1), (.int 1), (.int 10)]))) (some (.imm (.int 8))) (some (.imm (.int 10))) (a11) none
  exact ⟨_, seg_S 9 _ (n31 a0 a1 a2 a3 a4 a5 a6 a7 a8 a9 a10 a11 a12) (seg_S 1 _ e (fin (a0) (a1) (a2) (a3) (a4) (a5) (a6) (a7) (a8) (some (.imm (.int 273))) (a10) y11 (some (.imm (.int 1520))) (some (.imm (.int 31))) (some (.imm (.int 5))) (some (.imm (.tuple [(.int 1), (.int 1), (.int 3), (.int 5), (.int 3), (.int 1), (.int 1), (.int 10)]))) (some (.imm (.int 5))) (some (.imm (.int 6))) (some (.own (.lst [(.int 5), (.int 1), (.int 1), (.int 3), (.int 5), (.int 3), (.int 1), (.int 1), (.int 10)]))) (some (.imm (.int 8))) (some (.imm (.int 10))) y21))⟩
theorem n32 (a0 a1 a2 a3 a4 a5 a6 a7 a8 a9 a10 a11 a12 : OL) : denS Cl gc false Wd (takeS 9 (dropS 9 B)) [a0, a1, a2, a3, a4, a5, a6, a7, a8, a9, a10, a11, a12, some (.imm (.int 32)), none, none, none, none, none, none, none, none, none, none] = .next [a0, a1, a2, a3, a4, a5, a6, a7, a8, some (.imm (.int 3)), a10, a11, some (.imm (.int 17)), some (.imm (.int 32)), some (.imm (.int 5)), some (.imm (.tuple [(.int 1), (.int 1), (.int 1), (.int 10)])), some (.imm (.int 5)), some (.imm (.int 7)), some (.own (.lst [(.int 5), (.int 1), (.int 1), (.int 1), (.int 10)])), some (.imm (.int 4)), some (.imm (.int 10)), none, none, none] := by kernel_rfl
theorem c32 : chkW 32 2 = true := by kernel_rfl
theorem m32 (a0 a1 a2 a3 a4 a5 a6 a7 a8 a9 a10 a11 a12 : OL) : ∃ L1, denS Cl gc false Wd (dropS 9 B) [a0, a1, a2, a3, a4, a5, a6, a7, a8, a9, a10, a11, a12, some (.imm (.int 32)), none, none, none, none, none, none, none, none, none, none] = .ret (.imm (.bool true)) L1 := by
  obtain ⟨y11, y21, e⟩ := wfor (m := 32) (c := 2) (mi := 32) (v := 3) rfl (by decide) (by decide) (by decide) c32 (a0) (a1) (a2) (a3) (a4) (a5) (a6) (a7) (a8) (a10) (some (.imm (.int 17))) (some (.imm (.int 5))) (some (.imm (.tuple [(.int 1), (.int 1), (.int 1), (.int 10)]))) (some (.imm (.int 5))) (some (.imm (.int 7))) (some (.own (.lst [(.int 5), (.int 1), (.int 1), (.int 1), (.int 10)]))) (some (.imm (.int 4))) (some (.imm (.int 10))) (a11) none
  exact ⟨_, seg_S 9 _ (n32 a0 a1 a2 a3 a4 a5 a6 a7 a8 a9 a10 a11 a12) (seg_S 1 _ e (fin (a0) (a1) (a2) (a3) (a4) (a5) (a6) (a7) (a8) (some (.imm (.int 3))) (a10) y11 (some (.imm (.int 17))) (some (.imm (.int 32))) (some (.imm (.int 5))) (some (.imm (.tuple [(.int 1), (.int 1), (.int 1), (.int 10)]))) (some (.imm (.int 5))) (some (.imm (.int 7))) (some (.own (.lst [(.int 5), (.int 1), (.int 1), (.int 1), (.int 10)]))) (some (.imm (.int 4))) (some (.imm (.int 10))) y21))⟩
theorem n33 (a0 a1 a2 a3 a4 a5 a6 a7 a8 a9 a10 a11 a12 : OL) : denS Cl gc false Wd (takeS 9 (dropS 9 B)) [a0, a1, a2, a3, a4, a5, a6, a7, a8, a9, a10, a11, a12, some (.imm (.int 33)), none, none, none, none, none, none, none, none, none, none] = .next [a0, a1, a2, a3, a4, a5, a6, a7, a8, some (.imm (.int 4)), a10, a11, some (.imm (.int 23)), some (.imm (.int 33)), some (.imm (.int 5)), some (.imm (.tuple [(.int 1), (.int 2), (.int 1), (.int 10)])), some (.imm (.int 5)), some (.imm (.int 8)), some (.own (.lst [(.int 5), (.int 1), (.int 2), (.int 1), (.int 10)])), some (.imm (.int 4)), some (.imm (.int 10)), none, none, none] := by kernel_rfl
theorem c33 : chkW 33 3 = true := by kernel_rfl
theorem m33 (a0 a1 a2 a3 a4 a5 a6 a7 a8 a9 a10 a11 a12 : OL) : ∃ L1, denS Cl gc false Wd (dropS 9 B) [a0, a1, a2, a3, a4, a5, a6, a7, a8, a9, a10, a11, a12, some (.imm (.int 33)), none, none, none, none, none, none, none, none, none, none] = .ret (.imm (.bool true)) L1 := by
  obtain ⟨y11, y21, e⟩ := wfor (m := 33) (c := 3) (mi := 33) (v := 4) rfl (by decide) (by decide) (by decide) c33 (a0) (a1) (a2) (a3) (a4) (a5) (a6) (a7) (a8) (a10) (some (.imm (.int 23))) (some (.imm (.int 5))) (some (.imm (.tuple [(.int 1), (.int 2), (.int 1), (.int 10)]))) (some (.imm (.int 5))) (some (.imm (.int 8))) (some (.own (.lst [(.int 5), (.int 1), (.int 2), (.int 1), (.int 10)]))) (some (.imm (.int 4))) (some (.imm (.int 10))) (a11) none
  exact ⟨_, seg_S 9 _ (n33 a0 a1 a2 a3 a4 a5 a6 a7 a8 a9 a10 a11 a12) (seg_S 1 _ e (fin (a0) (a1) (a2) (a3) (a4) (a5) (a6) (a7) (a8) (some (.imm (.int 4))) (a10) y11 (some (.imm (.int 23))) (some (.imm (.int 33))) (some (.imm (.int 5))) (some (.imm (.tuple [(.int 1), (.int 2), (.int 1), (.int 10)]))) (some (.imm (.int 5))) (some (.imm (.int 8))) (some (.own (.lst [(.int 5), (.int 1), (.int 2), (.int 1), (.int 10)]))) (some (.imm (.int 4))) (some (.imm (.int 10))) y21))⟩
theorem n34 (a0 a1 a2 a3 a4 a5 a6 a7 a8 a9 a10 a11 a12 : OL) : denS Cl gc false Wd (takeS 9 (dropS 9 B)) [a0, a1, a2, a3, a4, a5, a6, a7, a8, a9, a10, a11, a12, some (.imm (.int 34)), none, none, none, none, none, none, none, none, none, none] = .next [a0, a1, a2, a3, a4, a5, a6, a7, a8, some (.imm (.int 6)), a10, a11, some (.imm (.int 35)), some (.imm (.int 34)), some (.imm (.int 5)), some (.imm (.tuple [(.int 1), (.int 4), (.int 1), (.int 10)])), some (.imm (.int 5)), some (.imm (.int 9)), some (.own (.lst [(.int 5), (.int 1), (.int 4), (.int 1), (.int 10)])), some (.imm (.int 4)), some (.imm (.int 10)), none, none, none] := by kernel_rfl
theorem c34 : chkW 34 5 = true := by kernel_rfl
theorem m34 (a0 a1 a2 a3 a4 a5 a6 a7 a8 a9 a10 a11 a12 : OL) : ∃ L1, denS Cl gc false Wd (dropS 9 B) [a0, a1, a2, a3, a4, a5, a6, a7, a8, a9, a10, a11, a12, some (.imm (.int 34)), none, none, none, none, none, none, none, none, none, none] = .ret (.imm (.bool true)) L1 := by
  obtain ⟨y11, y21, e⟩ := wfor (m := 34) (c := 5) (mi := 34) (v := 6) rfl (by decide) (by decide) (by decide) c34 (a0) (a1) (a2) (a3) (a4) (a5) (a6) (a7) (a8) (a10) (some (.imm (.int 35))) (some (.imm (.int 5))) (some (.imm (.tuple [(.int 1), (.int 4), (.int 1), (.int 10)]))) (some (.imm (.int 5))) (some (.imm (.int 9))) (some (.own (.lst [(.int 5), (.int 1), (.int 4), (.int 1), (.int 10)]))) (some (.imm (.int 4))) (some (.imm (.int 10))) (a11) none
  exact ⟨_, seg_S 9 _ (n34 a0 a1 a2 a3 a4 a5 a6 a7 a8 a9 a10 a11 a12) (seg_S 1 _ e (fin (a0) (a1) (a2) (a3) (a4) (a5) (a6) (a7) (a8) (some (.imm (.int 6))) (a10) y11 (some (.imm (.int 35))) (some (.imm (.int 34))) (some (.imm (.int 5))) (some (.imm (.tuple [(.int 1), (.int 4), (.int 1), (.int 10)]))) (some (.imm (.int 5))) (some (.imm (.int 9))) (some (.own (.lst [(.int 5), (.int 1), (.int 4), (.int 1), (.int 10)]))) (some (.imm (.int 4))) (some (.imm (.int 10))) y21))⟩
theorem n35 (a0 a1 a2 a3 a4 a5 a6 a7 a8 a9 a10 a11 a12 : OL) : denS Cl gc false Wd (takeS 9 (dropS 9 B)) [a0, a1, a2, a3, a4, a5, a6, a7, a8, a9, a10, a11, a12, some (.imm (.int 35)), none, none, none, none, none, none, none, none, none, none] = .next [a0, a1, a2, a3, a4, a5, a6, a7, a8, some (.imm (.int 1)), a10, a11, some (.imm (.int 6)), some (.imm (.int 35)), some (.imm (.int 5)), some (.imm (.tuple [(.int 1), (.int 10)])), some (.imm (.int 5)), some (.imm (.int 10)), some (.own (.lst [(.int 5), (.int 1), (.int 10)])), some (.imm (.int 2)), some (.imm (.int 10)), none, none, none] := by kernel_rfl
theorem c35 : chkW 35 0 = true := by kernel_rfl
theorem m35 (a0 a1 a2 a3 a4 a5 a6 a7 a8 a9 a10 a11 a12 : OL) : ∃ L1, denS Cl gc false Wd (dropS 9 B) [a0, a1, a2, a3, a4, a5, a6, a7, a8, a9, a10, a11, a12, some (.imm (.int 35)), none, none, none, none, none, none, none, none, none, none] = .ret (.imm (.bool true)) L1 := by
  obtain ⟨y11, y21, e⟩ := wfor (m := 35) (c := 0) (mi := 35) (v := 1) rfl (by decide) (by decide) (by decide) c35 (a0) (a1) (a2) (a3) (a4) (a5) (a6) (a7) (a8) (a10) (some (.imm (.int 6))) (some (.imm (.int 5))) (some (.imm (.tuple [(.int 1), (.int 10)]))) (some (.imm (.int 5))) (some (.imm (.int 10))) (some (.own (.lst [(.int 5), (.int 1), (.int 10)]))) (some (.imm (.int 2))) (some (.imm (.int 10))) (a11) none
  exact ⟨_, seg_S 9 _ (n35 a0 a1 a2 a3 a4 a5 a6 a7 a8 a9 a10 a11 a12) (seg_S 1 _ e (fin (a0) (a1) (a2) (a3) (a4) (a5) (a6) (a7) (a8) (some (.imm (.int 1))) (a10) y11 (some (.imm (.int 6))) (some (.imm (.int 35))) (some (.imm (.int 5))) (some (.imm (.tuple [(.int 1), (.int 10)]))) (some (.imm (.int 5))) (some (.imm (.int 10))) (some (.own (.lst [(.int 5), (.int 1), (.int 10)]))) (some (.imm (.int 2))) (some (.imm (.int 10))) y21))⟩
theorem m36 (a0 a1 a2 a3 a4 a5 a6 a7 a8 a9 a10 a11 a12 : OL) : ∃ L1, denS Cl gc false Wd (dropS 9 B) [a0, a1, a2, a3, a4, a5, a6, a7, a8, a9, a10, a11, a12, some (.imm (.int 36)), none, none, none, none, none, none, none, none, none, none] = .ret (.imm (.bool true)) L1 := ⟨[a0, a1, a2, a3, a4, a5, a6, a7, a8, a9, a10, a11, a12, some (.imm (.int 36)), none, none, none, none, none, none, none, none, none, none], by kernel_rfl⟩
theorem n37 (a0 a1 a2 a3 a4 a5 a6 a7 a8 a9 a10 a11 a12 : OL) : denS Cl gc false Wd (takeS 9 (dropS 9 B)) [a0, a1, a2, a3, a4, a5, a6, a7, a8, a9, a10, a11, a12, some (.imm (.int 37)), none, none, none, none, none, none, none, none, none, none] = .next [a0, a1, a2, a3, a4, a5, a6, a7, a8, some (.imm (.int 12)), a10, a11, some (.imm (.int 73)), some (.imm (.int 37)), some (.imm (.int 6)), some (.imm (.tuple [(.int 12)])), some (.imm (.int 6)), some (.imm (.int 1)), some (.own (.lst [(.int 6), (.int 12)])), some (.imm (.int 1)), some (.imm (.int 12)), none, none, none] := by kernel_rfl
theorem c37 : chkW 37 11 = true := by kernel_rfl
theorem m37 (a0 a1 a2 a3 a4 a5 a6 a7 a8 a9 a10 a11 a12 : OL) : ∃ L1, denS Cl gc false Wd (dropS 9 B) [a0, a1, a2, a3, a4, a5, a6, a7, a8, a9, a10, a11, a12, some (.imm (.int 37)), none, none, none, none, none, none, none, none, none, none] = .ret (.imm (.bool true)) L1 := by
  obtain ⟨y11, y21, e⟩ := wfor (m := 37) (c := 11) (mi := 37) (v := 12) rfl (by decide) (by decide) (by decide) c37 (a0) (a1) (a2) (a3) (a4) (a5) (a6) (a7) (a8) (a10) (some (.imm (.int 73))) (some (.imm (.int 6))) (some (.imm (.tuple [(.int 12)]))) (some (.imm (.int 6))) (some (.imm (.int 1))) (some (.own (.lst [(.int 6), (.int 12)]))) (some (.imm (.int 1))) (some (.imm (.int 12))) (a11) none
  exact ⟨_, seg_S 9 _ (n37 a0 a1 a2 a3 a4 a5 a6 a7 a8 a9 a10 a11 a12) (seg_S 1 _ e (fin (a0) (a1) (a2) (a3) (a4) (a5) (a6) (a7) (a8) (some (.imm (.int 12))) (a10) y11 (some (.imm (.int 73))) (some (.imm (.int 37))) (some (.imm (.int 6))) (some (.imm (.tuple [(.int 12)]))) (some (.imm (.int 6))) (some (.imm (.int 1))) (some (.own (.lst [(.int 6), (.int 12)]))) (some (.imm (.int 1))) (some (.imm (.int 12))) y21))⟩
theorem n38 (a0 a1 a2 a3 a4 a5 a6 a7 a8 a9 a10 a11 a12 : OL) : denS Cl gc false Wd (takeS 9 (dropS 9 B)) [a0, a1, a2, a3, a4, a5, a6, a7, a8, a9, a10, a11, a12, some (.imm (.int 38)), none, none, none, none, none, none, none, none, none, none] = .next [a0, a1, a2, a3, a4, a5, a6, a7, a8, some (.imm (.int 6)), a10, a11, some (.imm (.int 37)), some (.imm (.int 38)), some (.imm (.int 6)), some (.imm (.tuple [(.int 6), (.int 12)])), some (.imm (.int 6)), some (.imm (.int 2)), some (.own (.lst [(.int 6), (.int 6), (.int 12)])), some (.imm (.int 2)), some (.imm (.int 12)), none, none, none] := by kernel_rfl
theorem c38 : chkW 38 5 = true := by kernel_rfl
theorem m38 (a0 a1 a2 a3 a4 a5 a6 a7 a8 a9 a10 a11 a12 : OL) : ∃ L1, denS Cl gc false Wd (dropS 9 B) [a0, a1, a2, a3, a4, a5, a6, a7, a8, a9, a10, a11, a12, some (.imm (.int 38)), none, none, none, none, none, none, none, none, none, none] = .ret (.imm (.bool true)) L1 := by
  obtain ⟨y11, y21, e⟩ := wfor (m := 38) (c := 5) (mi := 38) (v := 6) rfl (by decide) (by decide) (by decide) c38 (a0) (a1) (a2) (a3) (a4) (a5) (a6) (a7) (a8) (a10) (some (.imm (.int 37))) (some (.imm (.int 6))) (some (.imm (.tuple [(.int 6), (.int 12)]))) (some (.imm (.int 6))) (some (.imm (.int 2))) (some (.own (.lst [(.int 6), (.int 6), (.int 12)]))) (some (.imm (.int 2))) (some (.imm (.int 12))) (a11) none
  exact ⟨_, seg_S 9 _ (n38 a0 a1 a2 a3 a4 a5 a6 a7 a8 a9 a10 a11 a12) (seg_S 1 _ e (fin (a0) (a1) (a2) (a3) (a4) (a5) (a6) (a7) (a8) (some (.imm (.int 6))) (a10) y11 (some (.imm (.int 37))) (some (.imm (.int 38))) (some (.imm (.int 6))) (some (.imm (.tuple [(.int 6), (.int 12)]))) (some (.imm (.int 6))) (some (.imm (.int 2))) (some (.own (.lst [(.int 6), (.int 6), (.int 12)]))) (some (.imm (.int 2))) (some (.imm (.int 12))) y21))⟩
theorem n39 (a0 a1 a2 a3 a4 a5 a6 a7 a8 a9 a10 a11 a12 : OL) : denS Cl gc false Wd (takeS 9 (dropS 9 B)) [a0, a1, a2, a3, a4, a5, a6, a7, a8, a9, a10, a11, a12, some (.imm (.int 39)), none, none, none, none, none, none, none, none, none, none] = .next [a0, a1, a2, a3, a4, a5, a6, a7, a8, some (.imm (.int 4)), a10, a11, some (.imm (.int 25)), some (.imm (.int 39)), some (.imm (.int 6)), some (.imm (.tuple [(.int 4), (.int 12)])), some (.imm (.int 6)), some (.imm (.int 3)), some (.own (.lst [(.int 6), (.int 4), (.int 12)])), some (.imm (.int 2)), some (.imm (.int 12)), none, none, none] := by kernel_rfl
theorem c39 : chkW 39 3 = true := by kernel_rfl
theorem m39 (a0 a1 a2 a3 a4 a5 a6 a7 a8 a9 a10 a11 a12 : OL) : ∃ L1, denS Cl gc false Wd (dropS 9 B) [a0, a1, a2, a3, a4, a5, a6, a7, a8, a9, a10, a11, a12, some (.imm (.int 39)), none, none, none, none, none, none, none, none, none, none] = .ret (.imm (.bool true)) L1 := by
  obtain ⟨y11, y21, e⟩ := wfor (m := 39) (c := 3) (mi := 39) (v := 4) rfl (by decide) (by decide) (by decide) c39 (a0) (a1) (a2) (a3) (a4) (a5) (a6) (a7) (a8) (a10) (some (.imm (.int 25))) (some (.imm (.int 6))) (some (.imm (.tuple [(.int 4), (.int 12)]))) (some (.imm (.int 6))) (some (.imm (.int 3))) (some (.own (.lst [(.int 6), (.int 4), (.int 12)]))) (some (.imm (.int 2))) (some (.imm (.int 12))) (a11) none
  exact ⟨_, seg_S 9 _ (n39 a0 a1 a2 a3 a4 a5 a6 a7 a8 a9 a10 a11 a12) (seg_S 1 _ e (fin (a0) (a1) (a2) (a3) (a4) (a5) (a6) (a7) (a8) (some (.imm (.int 4))) (a10) y11 (some (.imm (.int 25))) (some (.imm (.int 39))) (some (.imm (.int 6))) (some (.imm (.tuple [(.int 4), (.int 12)]))) (some (.imm (.int 6))) (some (.imm (.int 3))) (some (.own (.lst [(.int 6), (.int 4), (.int 12)]))) (some (.imm (.int 2))) (some (.imm (.int 12))) y21))⟩
theorem n40 (a0 a1 a2 a3 a4 a5 a6 a7 a8 a9 a10 a11 a12 : OL) : denS Cl gc false Wd (takeS 9 (dropS 9 B)) [a0, a1, a2, a3, a4, a5, a6, a7, a8, a9, a10, a11, a12, some (.imm (.int 40)), none, none, none, none, none, none, none, none, none, none] = .next [a0, a1, a2, a3, a4, a5, a6, a7, a8, some (.imm (.int 3)), a10, a11, some (.imm (.int 19)), some (.imm (.int 40)), some (.imm (.int 6)), some (.imm (.tuple [(.int 3), (.int 12)])), some (.imm (.int 6)), some (.imm (.int 4)), some (.own (.lst [(.int 6), (.int 3), (.int 12)])), some (.imm (.int 2)), some (.imm (.int 12)), none, none, none] := by kernel_rfl
theorem c40 : chkW 40 2 = true := by kernel_rfl
theorem m40 (a0 a1 a2 a3 a4 a5 a6 a7 a8 a9 a10 a11 a12 : OL) : ∃ L1, denS Cl gc false Wd (dropS 9 B) [a0, a1, a2, a3, a4, a5, a6, a7, a8, a9, a10, a11, a12, some (.imm (.int 40)), none, none, none, none, none, none, none, none, none, none] = .ret (.imm (.bool true)) L1 := by
  obtain ⟨y11, y21, e⟩ := wfor (m := 40) (c := 2) (mi := 40) (v := 3) rfl (by decide) (by decide) (by decide) c40 (a0) (a1) (a2) (a3) (a4) (a5) (a6) (a7) (a8) (a10) (some (.imm (.int 19))) (some (.imm (.int 6))) (some (.imm (.tuple [(.int 3), (.int 12)]))) (some (.imm (.int 6))) (some (.imm (.int 4))) (some (.own (.lst [(.int 6), (.int 3), (.int 12)]))) (some (.imm (.int 2))) (some (.imm (.int 12))) (a11) none
  exact ⟨_, seg_S 9 _ (n40 a0 a1 a2 a3 a4 a5 a6 a7 a8 a9 a10 a11 a12) (seg_S 1 _ e (fin (a0) (a1) (a2) (a3) (a4) (a5) (a6) (a7) (a8) (some (.imm (.int 3))) (a10) y11 (some (.imm (.int 19))) (some (.imm (.int 40))) (some (.imm (.int 6))) (some (.imm (.tuple [(.int 3), (.int 12)]))) (some (.imm (.int 6))) (some (.imm (.int 4))) (some (.own (.lst [(.int 6), (.int 3), (.int 12)]))) (some (.imm (.int 2))) (some (.imm (.int 12))) y21))⟩
theorem n41 (a0 a1 a2 a3 a4 a5 a6 a7 a8 a9 a10 a11 a12 : OL) : denS Cl gc false Wd (takeS 9 (dropS 9 B)) [a0, a1, a2, a3, a4, a5, a6, a7, a8, a9, a10, a11, a12, some (.imm (.int 41)), none, none, none, none, none, none, none, none, none, none] = .next [a0, a1, a2, a3, a4, a5, a6, a7, a8, some (.imm (.int 320)), a10, a11, some (.imm (.int 2049)), some (.imm (.int 41)), some (.imm (.int 6)), some (.imm (.tuple [(.int 2), (.int 2), (.int 12)])), some (.imm (.int 6)), some (.imm (.int 5)), some (.own (.lst [(.int 6), (.int 2), (.int 2), (.int 12)])), some (.imm (.int 3)), some (.imm (.int 12)), none, none, none] := by kernel_rfl
theorem c41 : chkW 41 319 = true := by kernel_rfl
theorem m41 (a0 a1 a2 a3 a4 a5 a6 a7 a8 a9 a10 a11 a12 : OL) : ∃ L1, denS Cl gc false Wd (dropS 9 B) [a0, a1, a2, a3, a4, a5, a6, a7, a8, a9, a10, a11, a12, some (.imm (.int 41)), none, none, none, none, none, none, none, none, none, none] = .ret (.imm (.bool true)) L1 := by
  obtain ⟨y11, y21, e⟩ := wfor (m := 41) (c := 319) (mi := 41) (v := 320) rfl (by decide) (by decide) (by decide) c41 (a0) (a1) (a2) (a3) (a4) (a5) (a6) (a7) (a8) (a10) (some (.imm (.int 2049))) (some (.imm (.int 6))) (some (.imm (.tuple [(.int 2), (.int 2), (.int 12)]))) (some (.imm (.int 6))) (some (.imm (.int 5))) (some (.own (.lst [(.int 6), (.int 2), (.int 2), (.int 12)]))) (some (.imm (.int 3))) (some (.imm (.int 12))) (a11) none
  exact ⟨_, seg_S 9 _ (n41 a0 a1 a2 a3 a4 a5 a6 a7 a8 a9 a10 a11 a12) (seg_S 1 _ e (fin (a0) (a1) (a2) (a3) (a4) (a5) (a6) (a7) (a8) (some (.imm (.int 320))) (a10) y11 (some (.imm (.int 2049))) (some (.imm (.int 41))) (some (.imm (.int 6))) (some (.imm (.tuple [(.int 2), (.int 2), (.int 12)]))) (some (.imm (.int 6))) (some (.imm (.int 5))) (some (.own (.lst [(.int 6), (.int 2), (.int 2), (.int 12)]))) (some (.imm (.int 3))) (some (.imm (.int 12))) y21))⟩
theorem n42 (a0 a1 a2 a3 a4 a5 a6 a7 a8 a9 a10 a11 a12 : OL) : denS Cl gc false Wd (takeS 9 (dropS 9 B)) [a0, a1, a2, a3, a4, a5, a6, a7, a8, a9, a10, a11, a12, some (.imm (.int 42)), none, none, none, none, none, none, none, none, none, none] = .next [a0, a1, a2, a3, a4, a5, a6, a7, a8, some (.imm (.int 2)), a10, a11, some (.imm (.int 13)), some (.imm (.int 42)), some (.imm (.int 6)), some (.imm (.tuple [(.int 2), (.int 12)])), some (.imm (.int 6)), some (.imm (.int 6)), some (.own (.lst [(.int 6), (.int 2), (.int 12)])), some (.imm (.int 2)), some (.imm (.int 12)), none, none, none] := by kernel_rfl
theorem c42 : chkW 42 1 = true := by kernel_rfl
theorem m42 (a0 a1 a2 a3 a4 a5 a6 a7 a8 a9 a10 a11 a12 : OL) : ∃ L1, denS Cl gc false Wd (dropS 9 B) [a0, a1, a2, a3, a4, a5, a6, a7, a8, a9, a10, a11, a12, some (.imm (.int 42)), none, none, none, none, none, none, none, none, none, none] = .ret (.imm (.bool true)) L1 := by
  obtain ⟨y11, y21, e⟩ := wfor (m := 42) (c := 1) (mi := 42) (v := 2) rfl (by decide) (by decide) (by decide) c42 (a0) (a1) (a2) (a3) (a4) (a5) (a6) (a7) (a8) (a10) (some (.imm (.int 13))) (some (.imm (.int 6))) (some (.imm (.tuple [(.int 2), (.int 12)]))) (some (.imm (.int 6))) (some (.imm (.int 6))) (some (.own (.lst [(.int 6), (.int 2), (.int 12)]))) (some (.imm (.int 2))) (some (.imm (.int 12))) (a11) none
  exact ⟨_, seg_S 9 _ (n42 a0 a1 a2 a3 a4 a5 a6 a7 a8 a9 a10 a11 a12) (seg_S 1 _ e (fin (a0) (a1) (a2) (a3) (a4) (a5) (a6) (a7) (a8) (some (.imm (.int 2))) (a10) y11 (some (.imm (.int 13))) (some (.imm (.int 42))) (some (.imm (.int 6))) (some (.imm (.tuple [(.int 2), (.int 12)]))) (some (.imm (.int 6))) (some (.imm (.int 6))) (some (.own (.lst [(.int 6), (.int 2), (.int 12)]))) (some (.imm (.int 2))) (some (.imm (.int 12))) y21))⟩
theorem n43 (a0 a1 a2 a3 a4 a5 a6 a7 a8 a9 a10 a11 a12 : OL) : denS Cl gc false Wd (takeS 9 (dropS 9 B)) [a0, a1, a2, a3, a4, a5, a6, a7, a8, a9, a10, a11, a12, some (.imm (.int 43)), none, none, none, none, none, none, none, none, none, none] = .next [a0, a1, a2, a3, a4, a5, a6, a7, a8, some (.imm (.int 531)), a10, a11, some (.imm (.int 3482)), some (.imm (.int 43)), some (.imm (.int 6)), some (.imm (.tuple [(.int 1), (.int 1), (.int 3), (.int 1), (.int 5), (.int 1), (.int 3), (.int 1), (.int 1), (.int 12)])), some (.imm (.int 6)), some (.imm (.int 7)), some (.own (.lst [(.int 6), (.int 1), (.int 1), (.int 3), (.int 1), (.int 5), (.int 1), (.int 3), (.int 1), (.int 1), (.int 12)])), some (.imm (.int 10)), some (.imm (.int 12)), none, none, none] := by kernel_rfl
theorem c43 : chkW 43 530 = true := by kernel_rfl
theorem m43 (a0 a1 a2 a3 a4 a5 a6 a7 a8 a9 a10 a11 a12 : OL) : ∃ L1, denS Cl gc false Wd (dropS 9 B) [a0, a1, a2, a3, a4, a5, a6, a7, a8, a9, a10, a11, a12, some (.imm (.int 43)), none, none, none, none, none, none, none, none, none, none] = .ret (.imm (.bool true)) L1 := by
  obtain ⟨y11, y21, e⟩ := wfor (m := 43) (c := 530) (mi := 43) (v := 531) rfl (by decide) (by decide) (by decide) c43 (a0) (a1) (a2) (a3) (a4) (a5) (a6) (a7) (a8) (a10) (some (.imm (.int 3482))) (some (.imm (.int 6))) (some (.imm (.tuple [(.int 1), (.int 1), (.int 3), (.int 1), (.int 5), (.int 1), (.int 3), (.int 1), (.int 1), (.int 12)]))) (some (.imm (.int 6))) (some (.imm (.int 7))) (some (.own (.lst [(.int 6), (.int 1), (.int 1), (.int 3), (.int 1), (.int 5), (.int 1), (.int 3), (.int 1), (.int 1), (.int 12)]))) (some (.imm (.int 10))) (some (.imm (.int 12))) (a11) none
  exact ⟨_, seg_S 9 _ (n43 a0 a1 a2 a3 a4 a5 a6 a7 a8 a9 a10 a11 a12) (seg_S 1 _ e (fin (a0) (a1) (a2) (a3) (a4) (a5) (a6) (a7) (a8) (some (.imm (.int 531))) (a10) y11 (some (.imm (.int 3482))) (some (.imm (.int 43))) (some (.imm (.int 6))) (some (.imm (.tuple [(.int 1), (.int 1), (.int 3), (.int 1), (.int 5), (.int 1), (.int 3), (.int 1), (.int 1), (.int 12)]))) (some (.imm (.int 6))) (some (.imm (.int 7))) (some (.own (.lst [(.int 6), (.int 1), (.int 1), (.int 3), (.int 1), (.int 5), (.int 1), (.int 3), (.int 1), (.int 1), (.int 12)]))) (some (.imm (.int 10))) (some (.imm (.int 12))) y21))⟩
theorem n44 (a0 a1 a2 a3 a4 a5 a6 a7 a8 a9 a10 a11 a12 : OL) : denS Cl gc false Wd (takeS 9 (dropS 9 B)) [a0, a1, a2, a3, a4, a5, a6, a7, a8, a9, a10, a11, a12, some (.imm (.int 44)), none, none, none, none, none, none, none, none, none, none] = .next [a0, a1, a2, a3, a4, a5, a6, a7, a8, some (.imm (.int 30)), a10, a11, some (.imm (.int 199)), some (.imm (.int 44)), some (.imm (.int 6)), some (.imm (.tuple [(.int 1), (.int 1), (.int 1), (.int 2), (.int 1), (.int 1), (.int 1), (.int 12)])), some (.imm (.int 6)), some (.imm (.int 8)), some (.own (.lst [(.int 6), (.int 1), (.int 1), (.int 1), (.int 2), (.int 1), (.int 1), (.int 1), (.int 12)])), some (.imm (.int 8)), some (.imm (.int 12)), none, none, none] := by kernel_rfl
theorem c44 : chkW 44 29 = true := by kernel_rfl
theorem m44 (a0 a1 a2 a3 a4 a5 a6 a7 a8 a9 a10 a11 a12 : OL) : ∃ L1, denS Cl gc false Wd (dropS 9 B) [a0, a1, a2, a3, a4, a5, a6, a7, a8, a9, a10, a11, a12, some (.imm (.int 44)), none, none, none, none, none, none, none, none, none, none] = .ret (.imm (.bool true)) L1 := by
  obtain ⟨y11, y21, e⟩ := wfor (m := 44) (c := 29) (mi := 44) (v := 30) rfl (by decide) (by decide) (by decide) c44 (a0) (a1) (a2) (a3) (a4) (a5) (a6) (a7) (a8) (a10) (some (.imm (.int 199))) (some (.imm (.int 6))) (some (.imm (.tuple [(.int 1), (.int 1), (.int 1), (.int 2), (.int 1), (.int 1), (.int 1), (.int 12)]))) (some (.imm (.int 6))) (some (.imm (.int 8))) (some (.own (.lst [(.int 6), (.int 1), (.int 1), (.int 1), (.int 2), (.int 1), (.int 1), (.int 1), (.int 12)]))) (some (.imm (.int 8))) (some (.imm (.int 12))) (a11) none
  exact ⟨_, seg_S 9 _ (n44 a0 a1 a2 a3 a4 a5 a6 a7 a8 a9 a10 a11 a12) (seg_S 1 _ e (fin (a0) (a1) (a2) (a3) (a4) (a5) (a6) (a7) (a8) (some (.imm (.int 30))) (a10) y11 (some (.imm (.int 199))) (some (.imm (.int 44))) (some (.imm (.int 6))) (some (.imm (.tuple [(.int 1), (.int 1), (.int 1), (.int 2), (.int 1), (.int 1), (.int 1), (.int 12)]))) (some (.imm (.int 6))) (some (.imm (.int 8))) (some (.own (.lst [(.int 6), (.int 1), (.int 1), (.int 1), (.int 2), (.int 1), (.int 1), (.int 1), (.int 12)]))) (some (.imm (.int 8))) (some (.imm (.int 12))) y21))⟩
theorem n45 (a0 a1 a2 a3 a4 a5 a6 a7 a8 a9 a10 a11 a12 : OL) : denS Cl gc false Wd (takeS 9 (dropS 9 B)) [a0, a1, a2, a3, a4, a5, a6, a7, a8, a9, a10, a11, a12, some (.imm (.int 45)), none, none, none, none, none, none, none, none, none, none] = .next [a0, a1, a2, a3, a4, a5, a6, a7, a8, some (.imm (.int 24)), a10, a11, some (.imm (.int 161)), some (.imm (.int 45)), some (.imm (.int 6)), some (.imm (.tuple [(.int 1), (.int 2), (.int 2), (.int 2), (.int 1), (.int 12)])), some (.imm (.int 6)), some (.imm (.int 9)), some (.own (.lst [(.int 6), (.int 1), (.int 2), (.int 2), (.int 2), (.int 1), (.int 12)])), some (.imm (.int 6)), some (.imm (.int 12)), none, none, none] := by kernel_rfl
theorem c45 : chkW 45 23 = true := by kernel_rfl
theorem m45 (a0 a1 a2 a3 a4 a5 a6 a7 a8 a9 a10 a11 a12 : OL) : ∃ L1, denS Cl gc false Wd (dropS 9 B) [a0, a1, a2, a3, a4, a5, a6, a7, a8, a9, a10, a11, a12, some (.imm (.int 45)), none, none, none, none, none, none, none, none, none, none] = .ret (.imm (.bool true)) L1 := by
  obtain ⟨y11, y21, e⟩ := wfor (m := 45) (c := 23) (mi := 45) (v := 24) rfl (by decide) (by decide) (by decide) c45 (a0) (a1) (a2) (a3) (a4) (a5) (a6) (a7) (a8) (a10) (some (.imm (.int 161))) (some (.imm (.int 6))) (some (.imm (.tuple [(.int 1), (.int 2), (.int 2), (.int 2), (.int 1), (.int 12)]))) (some (.imm (.int 6))) (some (.imm (.int 9))) (some (.own (.lst [(.int 6), (.int 1), (.int 2), (.int 2), (.int 2), (.int 1), (.int 12)]))) (some (.imm (.int 6))) (some (.imm (.int 12))) (a11) none
  exact ⟨_, seg_S 9 _ (n45 a0 a1 a2 a3 a4 a5 a6 a7 a8 a9 a10 a11 a12) (seg_S 1 _ e (fin (a0) (a1) (a2) (a3) (a4) (a5) (a6) (a7) (a8) (some (.imm (.int 24))) (a10) y11 (some (.imm (.int 161))) (some (.imm (.int 45))) (some (.imm (.int 6))) (some (.imm (.tuple [(.int 1), (.int 2), (.int 2), (.int 2), (.int 1), (.int 12)]))) (some (.imm (.int 6))) (some (.imm (.int 9))) (some (.own (.lst [(.int 6), (.int 1), (.int 2), (.int 2), (.int 2), (.int 1), (.int 12)]))) (some (.imm (.int 6))) (some (.imm (.int 12))) y21))⟩
theorem n46 (a0 a1 a2 a3 a4 a5 a6 a7 a8 a9 a10 a11 a12 : OL) : denS Cl gc false Wd (takeS 9 (dropS 9 B)) [a0, a1, a2, a3, a4, a5, a6, a7, a8, a9, a10, a11, a12, some (.imm (.int 46)), none, none, none, none, none, none, none, none, none, none] = .next [a0, a1, a2, a3, a4, a5, a6, a7, a8, some (.imm (.int 3588)), a10, a11, some (.imm (.int 24335)), some (.imm (.int 46)), some (.imm (.int 6)), some (.imm (.tuple [(.int 1), (.int 3), (.int 1), (.int 1), (.int 2), (.int 6), (.int 2), (.int 1), (.int 1), (.int 3), (.int 1), (.int 12)])), some (.imm (.int 6)), some (.imm (.int 10)), some (.own (.lst [(.int 6), (.int 1), (.int 3), (.int 1), (.int 1), (.int 2), (.int 6), (.int 2), (.int 1), (.int 1), (.int 3), (.int 1), (.int 12)])), some (.imm (.int 12)), some (.imm (.int 12)), none, none, none] := by kernel_rfl
theorem c46 : chkW 46 2999 = true := by kernel_rfl
theorem m46 (a0 a1 a2 a3 a4 a5 a6 a7 a8 a9 a10 a11 a12 : OL) : ∃ L1, denS Cl gc false Wd (dropS 9 B) [a0, a1, a2, a3, a4, a5, a6, a7, a8, a9, a10, a11, a12, some (.imm (.int 46)), none, none, none, none, none, none, none, none, none, none] = .ret (.imm (.bool true)) L1 := by
  obtain ⟨y11, y21, e⟩ := wfor (m := 46) (c := 2999) (mi := 46) (v := 3588) rfl (by decide) (by decide) (by decide) c46 (a0) (a1) (a2) (a3) (a4) (a5) (a6) (a7) (a8) (a10) (some (.imm (.int 24335))) (some (.imm (.int 6))) (some (.imm (.tuple [(.int 1), (.int 3), (.int 1), (.int 1), (.int 2), (.int 6), (.int 2), (.int 1), (.int 1), (.int 3), (.int 1), (.int 12)]))) (some (.imm (.int 6))) (some (.imm (.int 10))) (some (.own (.lst [(.int 6), (.int 1), (.int 3), (.int 1), (.int 1), (.int 2), (.int 6), (.int 2), (.int 1), (.int 1), (.int 3), (.int 1), (.int 12)]))) (some (.imm (.int 12))) (some (.imm (.int 12))) (a11) none
  exact ⟨_, seg_S 9 _ (n46 a0 a1 a2 a3 a4 a5 a6 a7 a8 a9 a10 a11 a12) (seg_S 1 _ e (fin (a0) (a1) (a2) (a3) (a4) (a5) (a6) (a7) (a8) (some (.imm (.int 3588))) (a10) y11 (some (.imm (.int 24335))) (some (.imm (.int 46))) (some (.imm (.int 6))) (some (.imm (.tuple [(.int 1), (.int 3), (.int 1), (.int 1), (.int 2), (.int 6), (.int 2), (.int 1), (.int 1), (.int 3), (.int 1), (.int 12)]))) (some (.imm (.int 6))) (some (.imm (.int 10))) (some (.own (.lst [(.int 6), (.int 1), (.int 3), (.int 1), (.int 1), (.int 2), (.int 6), (.int 2), (.int 1), (.int 1), (.int 3), (.int 1), (.int 12)]))) (some (.imm (.int 12))) (some (.imm (.int 12))) y21))⟩
theorem n47 (a0 a1 a2 a3 a4 a5 a6 a7 a8 a9 a10 a11 a12 : OL) : denS Cl gc false Wd (takeS 9 (dropS 9 B)) [a0, a1, a2, a3, a4, a5, a6, a7, a8, a9, a10, a11, a12, some (.imm (.int 47)), none, none, none, none, none, none, none, none, none, none] = .next [a0, a1, a2, a3, a4, a5, a6, a7, a8, some (.imm (.int 7)), a10, a11, some (.imm (.int 48)), some (.imm (.int 47)), some (.imm (.int 6)), some (.imm (.tuple [(.int 1), (.int 5), (.int 1), (.int 12)])), some (.imm (.int 6)), some (.imm (.int 11)), some (.own (.lst [(.int 6), (.int 1), (.int 5), (.int 1), (.int 12)])), some (.imm (.int 4)), some (.imm (.int 12)), none, none, none] := by kernel_rfl
theorem c47 : chkW 47 6 = true := by kernel_rfl
theorem m47 (a0 a1 a2 a3 a4 a5 a6 a7 a8 a9 a10 a11 a12 : OL) : ∃ L1, denS Cl gc false Wd (dropS 9 B) [a0, a1, a2, a3, a4, a5, a6, a7, a8, a9, a10, a11, a12, some (.imm (.int 47)), none, none, none, none, none, none, none, none, none, none] = .ret (.imm (.bool true)) L1 := by
  obtain ⟨y11, y21, e⟩ := wfor (m := 47) (c := 6) (mi := 47) (v := 7) rfl (by decide) (by decide) (by decide) c47 (a0) (a1) (a2) (a3) (a4) (a5) (a6) (a7) (a8) (a10) (some (.imm (.int 48))) (some (.imm (.int 6))) (some (.imm (.tuple [(.int 1), (.int 5), (.int 1), (.int 12)]))) (some (.imm (.int 6))) (some (.imm (.int 11))) (some (.own (.lst [(.int 6), (.int 1), (.int 5), (.int 1), (.int 12)]))) (some (.imm (.int 4))) (some (.imm (.int 12))) (a11) none
  exact ⟨_, seg_S 9 _ (n47 a0 a1 a2 a3 a4 a5 a6 a7 a8 a9 a10 a11 a12) (seg_S 1 _ e (fin (a0) (a1) (a2) (a3) (a4) (a5) (a6) (a7) (a8) (some (.imm (.int 7))) (a10) y11 (some (.imm (.int 48))) (some (.imm (.int 47))) (some (.imm (.int 6))) (some (.imm (.tuple [(.int 1), (.int 5), (.int 1), (.int 12)]))) (some (.imm (.int 6))) (some (.imm (.int 11))) (some (.own (.lst [(.int 6), (.int 1), (.int 5), (.int 1), (.int 12)]))) (some (.imm (.int 4))) (some (.imm (.int 12))) y21))⟩
theorem n48 (a0 a1 a2 a3 a4 a5 a6 a7 a8 a9 a10 a11 a12 : OL) : denS Cl gc false Wd (takeS 9 (dropS 9 B)) [a0, a1, a2, a3, a4, a5, a6, a7, a8, a9, a10, a11, a12, some (.imm (.int 48)), none, none, none, none, none, none, none, none, none, none] = .next [a0, a1, a2, a3, a4, a5, a6, a7, a8, some (.imm (.int 1)), a10, a11, some (.imm (.int 7)), some (.imm (.int 48)), some (.imm (.int 6)), some (.imm (.tuple [(.int 1), (.int 12)])), some (.imm (.int 6)), some (.imm (.int 12)), some (.own (.lst [(.int 6), (.int 1), (.int 12)])), some (.imm (.int 2)), some (.imm (.int 12)), none, none, none] := by kernel_rfl
theorem c48 : chkW 48 0 = true := by kernel_rfl
theorem m48 (a0 a1 a2 a3 a4 a5 a6 a7 a8 a9 a10 a11 a12 : OL) : ∃ L1, denS Cl gc false Wd (dropS 9 B) [a0, a1, a2, a3, a4, a5, a6, a7, a8, a9, a10, a11, a12, some (.imm (.int 48)), none, none, none, none, none, none, none, none, none, none] = .ret (.imm (.bool true)) L1 := by
  obtain ⟨y11, y21, e⟩ := wfor (m := 48) (c := 0) (mi := 48) (v := 1) rfl (by decide) (by decide) (by decide) c48 (a0) (a1) (a2) (a3) (a4) (a5) (a6) (a7) (a8) (a10) (some (.imm (.int 7))) (some (.imm (.int 6))) (some (.imm (.tuple [(.int 1), (.int 12)]))) (some (.imm (.int 6))) (some (.imm (.int 12))) (some (.own (.lst [(.int 6), (.int 1), (.int 12)]))) (some (.imm (.int 2))) (some (.imm (.int 12))) (a11) none
  exact ⟨_, seg_S 9 _ (n48 a0 a1 a2 a3 a4 a5 a6 a7 a8 a9 a10 a11 a12) (seg_S 1 _ e (fin (a0) (a1) (a2) (a3) (a4) (a5) (a6) (a7) (a8) (some (.imm (.int 1))) (a10) y11 (some (.imm (.int 7))) (some (.imm (.int 48))) (some (.imm (.int 6))) (some (.imm (.tuple [(.int 1), (.int 12)]))) (some (.imm (.int 6))) (some (.imm (.int 12))) (some (.own (.lst [(.int 6), (.int 1), (.int 12)]))) (some (.imm (.int 2))) (some (.imm (.int 12))) y21))⟩
theorem m49 (a0 a1 a2 a3 a4 a5 a6 a7 a8 a9 a10 a11 a12 : OL) : ∃ L1, denS Cl gc false Wd (dropS 9 B) [a0, a1, a2, a3, a4, a5, a6, a7, a8, a9, a10, a11, a12, some (.imm (.int 49)), none, none, none, none, none, none, none, none, none, none] = .ret (.imm (.bool true)) L1 := ⟨[a0, a1, a2, a3, a4, a5, a6, a7, a8, a9, a10, a11, a12, some (.imm (.int 49)), none, none, none, none, none, none, none, none, none, none], by kernel_rfl⟩
theorem n50 (a0 a1 a2 a3 a4 a5 a6 a7 a8 a9 a10 a11 a12 : OL) : denS Cl gc false Wd (takeS 9 (dropS 9 B)) [a0, a1, a2, a3, a4, a5, a6, a7, a8, a9, a10, a11, a12, some (.imm (.int 50)), none, none, none, none, none, none, none, none, none, none] = .next [a0, a1, a2, a3, a4, a5, a6, a7, a8, some (.imm (.int 14)), a10, a11, some (.imm (.int 99)), some (.imm (.int 50)), some (.imm (.int 7)), some (.imm (.tuple [(.int 14)])), some (.imm (.int 7)), some (.imm (.int 1)), some (.own (.lst [(.int 7), (.int 14)])), some (.imm (.int 1)), some (.imm (.int 14)), none, none, none] := by kernel_rfl
theorem c50 : chkW 50 13 = true := by kernel_rfl
theorem m50 (a0 a1 a2 a3 a4 a5 a6 a7 a8 a9 a10 a11 a12 : OL) : ∃ L1, denS Cl gc false Wd (dropS 9 B) [a0, a1, a2, a3, a4, a5, a6, a7, a8, a9, a10, a11, a12, some (.imm (.int 50)), none, none, none, none, none, none, none, none, none, none] = .ret (.imm (.bool true)) L1 := by
  obtain ⟨y11, y21, e⟩ := wfor (m := 50) (c := 13) (mi := 50) (v := 14) rfl (by decide) (by decide) (by decide) c50 (a0) (a1) (a2) (a3) (a4) (a5) (a6) (a7) (a8) (a10) (some (.imm (.int 99))) (some (.imm (.int 7))) (some (.imm (.tuple [(.int 14)]))) (some (.imm (.int 7))) (some (.imm (.int 1))) (some (.own (.lst [(.int 7), (.int 14)]))) (some (.imm (.int 1))) (some (.imm (.int 14))) (a11) none
  exact ⟨_, seg_S 9 _ (n50 a0 a1 a2 a3 a4 a5 a6 a7 a8 a9 a10 a11 a12) (seg_S 1 _ e (fin (a0) (a1) (a2) (a3) (a4) (a5) (a6) (a7) (a8) (some (.imm (.int 14))) (a10) y11 (some (.imm (.int 99))) (some (.imm (.int 50))) (some (.imm (.int 7))) (some (.imm (.tuple [(.int 14)]))) (some (.imm (.int 7))) (some (.imm (.int 1))) (some (.own (.lst [(.int 7), (.int 14)]))) (some (.imm (.int 1))) (some (.imm (.int 14))) y21))⟩
theorem n51 (a0 a1 a2 a3 a4 a5 a6 a7 a8 a9 a10 a11 a12 : OL) : denS Cl gc false Wd (takeS 9 (dropS 9 B)) [a0, a1, a2, a3, a4, a5, a6, a7, a8, a9, a10, a11, a12, some (.imm (.int 51)), none, none, none, none, none, none, none, none, none, none] = .next [a0, a1, a2, a3, a4, a5, a6, a7, a8, some (.imm (.int 7)), a10, a11, some (.imm (.int 50)), some (.imm (.int 51)), some (.imm (.int 7)), some (.imm (.tuple [(.int 7), (.int 14)])), some (.imm (.int 7)), some (.imm (.int 2)), some (.own (.lst [(.int 7), (.int 7), (.int 14)])), some (.imm (.int 2)), some (.imm (.int 14)), none, none, none] := by kernel_rfl
theorem c51 : chkW 51 6 = true := by kernel_rfl
theorem m51 (a0 a1 a2 a3 a4 a5 a6 a7 a8 a9 a10 a11 a12 : OL) : ∃ L1, denS Cl gc false Wd (dropS 9 B) [a0, a1, a2, a3, a4, a5, a6, a7, a8, a9, a10, a11, a12, some (.imm (.int 51)), none, none, none, none, none, none, none, none, none, none] = .ret (.imm (.bool true)) L1 := by
  obtain ⟨y11, y21, e⟩ := wfor (m := 51) (c := 6) (mi := 51) (v := 7) rfl (by decide) (by decide) (by decide) c51 (a0) (a1) (a2) (a3) (a4) (a5) (a6) (a7) (a8) (a10) (some (.imm (.int 50))) (some (.imm (.int 7))) (some (.imm (.tuple [(.int 7), (.int 14)]))) (some (.imm (.int 7))) (some (.imm (.int 2))) (some (.own (.lst [(.int 7), (.int 7), (.int 14)]))) (some (.imm (.int 2))) (some (.imm (.int 14))) (a11) none
  exact ⟨_, seg_S 9 _ (n51 a0 a1 a2 a3 a4 a5 a6 a7 a8 a9 a10 a11 a12) (seg_S 1 _ e (fin (a0) (a1) (a2) (a3) (a4) (a5) (a6) (a7) (a8) (some (.imm (.int 7))) (a10) y11 (some (.imm (.int 50))) (some (.imm (.int 51))) (some (.imm (.int 7))) (some (.imm (.tuple [(.int 7), (.int 14)]))) (some (.imm (.int 7))) (some (.imm (.int 2))) (some (.own (.lst [(.int 7), (.int 7), (.int 14)]))) (some (.imm (.int 2))) (some (.imm (.int 14))) y21))⟩
theorem n52 (a0 a1 a2 a3 a4 a5 a6 a7 a8 a9 a10 a11 a12 : OL) : denS Cl gc false Wd (takeS 9 (dropS 9 B)) [a0, a1, a2, a3, a4, a5, a6, a7, a8, a9, a10, a11, a12, some (.imm (.int 52)), none, none, none, none, none, none, none, none, none, none] = .next [a0, a1, a2, a3, a4, a5, a6, a7, a8, some (.imm (.int 90)), a10, a11, some (.imm (.int 649)), some (.imm (.int 52)), some (.imm (.int 7)), some (.imm (.tuple [(.int 4), (.int 1), (.int 2), (.int 1), (.int 4), (.int 14)])), some (.imm (.int 7)), some (.imm (.int 3)), some (.own (.lst [(.int 7), (.int 4), (.int 1), (.int 2), (.int 1), (.int 4), (.int 14)])), some (.imm (.int 6)), some (.imm (.int 14)), none, none, none] := by kernel_rfl
theorem c52 : chkW 52 89 = true := by kernel_rfl
theorem m52 (a0 a1 a2 a3 a4 a5 a6 a7 a8 a9 a10 a11 a12 : OL) : ∃ L1, denS Cl gc false Wd (dropS 9 B) [a0, a1, a2, a3, a4, a5, a6, a7, a8, a9, a10, a11, a12, some (.imm (.int 52)), none, none, none, none, none, none, none, none, none, none] = .ret (.imm (.bool true)) L1 := by
  obtain ⟨y11, y21, e⟩ := wfor (m := 52) (c := 89) (mi := 52) (v := 90) rfl (by decide) (by decide) (by decide) c52 (a0) (a1) (a2) (a3) (a4) (a5) (a6) (a7) (a8) (a10) (some (.imm (.int 649))) (some (.imm (.int 7))) (some (.imm (.tuple [(.int 4), (.int 1), (.int 2), (.int 1), (.int 4), (.int 14)]))) (some (.imm (.int 7))) (some (.imm (.int 3))) (some (.own (.lst [(.int 7), (.int 4), (.int 1), (.int 2), (.int 1), (.int 4), (.int 14)]))) (some (.imm (.int 6))) (some (.imm (.int 14))) (a11) none
  exact ⟨_, seg_S 9 _ (n52 a0 a1 a2 a3 a4 a5 a6 a7 a8 a9 a10 a11 a12) (seg_S 1 _ e (fin (a0) (a1) (a2) (a3) (a4) (a5) (a6) (a7) (a8) (some (.imm (.int 90))) (a10) y11 (some (.imm (.int 649))) (some (.imm (.int 52))) (some (.imm (.int 7))) (some (.imm (.tuple [(.int 4), (.int 1), (.int 2), (.int 1), (.int 4), (.int 14)]))) (some (.imm (.int 7))) (some (.imm (.int 3))) (some (.own (.lst [(.int 7), (.int 4), (.int 1), (.int 2), (.int 1), (.int 4), (.int 14)]))) (some (.imm (.int 6))) (some (.imm (.int 14))) y21))⟩
theorem n53 (a0 a1 a2 a3 a4 a5 a6 a7 a8 a9 a10 a11 a12 : OL) : denS Cl gc false Wd (takeS 9 (dropS 9 B)) [a0, a1, a2, a3, a4, a5, a6, a7, a8, a9, a10, a11, a12, some (.imm (.int 53)), none, none, none, none, none, none, none, none, none, none] = .next [a0, a1, a2, a3, a4, a5, a6, a7, a8, some (.imm (.int 9100)), a10, a11, some (.imm (.int 66249)), some (.imm (.int 53)), some (.imm (.int 7)), some (.imm (.tuple [(.int 3), (.int 1), (.int 1), (.int 3), (.int 14)])), some (.imm (.int 7)), some (.imm (.int 4)), some (.own (.lst [(.int 7), (.int 3), (.int 1), (.int 1), (.int 3), (.int 14)])), some (.imm (.int 5)), some (.imm (.int 14)), none, none, none] := by kernel_rfl
theorem c53 : chkW 53 2999 = true := by kernel_rfl
theorem m53 (a0 a1 a2 a3 a4 a5 a6 a7 a8 a9 a10 a11 a12 : OL) : ∃ L1, denS Cl gc false Wd (dropS 9 B) [a0, a1, a2, a3, a4, a5, a6, a7, a8, a9, a10, a11, a12, some (.imm (.int 53)), none, none, none, none, none, none, none, none, none, none] = .ret (.imm (.bool true)) L1 := by
  obtain ⟨y11, y21, e⟩ := wfor (m := 53) (c := 2999) (mi := 53) (v := 9100) rfl (by decide) (by decide) (by decide) c53 (a0) (a1) (a2) (a3) (a4) (a5) (a6) (a7) (a8) (a10) (some (.imm (.int 66249))) (some (.imm (.int 7))) (some (.imm (.tuple [(.int 3), (.int 1), (.int 1), (.int 3), (.int 14)]))) (some (.imm (.int 7))) (some (.imm (.int 4))) (some (.own (.lst [(.int 7), (.int 3), (.int 1), (.int 1), (.int 3), (.int 14)]))) (some (.imm (.int 5))) (some (.imm (.int 14))) (a11) none
  exact ⟨_, seg_S 9 _ (n53 a0 a1 a2 a3 a4 a5 a6 a7 a8 a9 a10 a11 a12) (seg_S 1 _ e (fin (a0) (a1) (a2) (a3) (a4) (a5) (a6) (a7) (a8) (some (.imm (.int 9100))) (a10) y11 (some (.imm (.int 66249))) (some (.imm (.int 53))) (some (.imm (.int 7))) (some (.imm (.tuple [(.int 3), (.int 1), (.int 1), (.int 3), (.int 14)]))) (some (.imm (.int 7))) (some (.imm (.int 4))) (some (.own (.lst [(.int 7), (.int 3), (.int 1), (.int 1), (.int 3), (.int 14)]))) (some (.imm (.int 5))) (some (.imm (.int 14))) y21))⟩
theorem n54 (a0 a1 a2 a3 a4 a5 a6 a7 a8 a9 a10 a11 a12 : OL) : denS Cl gc false Wd (takeS 9 (dropS 9 B)) [a0, a1, a2, a3, a4, a5, a6, a7, a8, a9, a10, a11, a12, some (.imm (.int 54)), none, none, none, none, none, none, none, none, none, none] = .next [a0, a1, a2, a3, a4, a5, a6, a7, a8, some (.imm (.int 66)), a10, a11, some (.imm (.int 485)), some (.imm (.int 54)), some (.imm (.int 7)), some (.imm (.tuple [(.int 2), (.int 1), (.int 6), (.int 1), (.int 2), (.int 14)])), some (.imm (.int 7)), some (.imm (.int 5)), some (.own (.lst [(.int 7), (.int 2), (.int 1), (.int 6), (.int 1), (.int 2), (.int 14)])), some (.imm (.int 6)), some (.imm (.int 14)), none, none, none] := by kernel_rfl
theorem c54 : chkW 54 65 = true := by kernel_rfl
theorem m54 (a0 a1 a2 a3 a4 a5 a6 a7 a8 a9 a10 a11 a12 : OL) : ∃ L1, denS Cl gc false Wd (dropS 9 B) [a0, a1, a2, a3, a4, a5, a6, a7, a8, a9, a10, a11, a12, some (.imm (.int 54)), none, none, none, none, none, none, none, none, none, none] = .ret (.imm (.bool true)) L1 := by
  obtain ⟨y11, y21, e⟩ := wfor (m := 54) (c := 65) (mi := 54) (v := 66) rfl (by decide) (by decide) (by decide) c54 (a0) (a1) (a2) (a3) (a4) (a5) (a6) (a7) (a8) (a10) (some (.imm (.int 485))) (some (.imm (.int 7))) (some (.imm (.tuple [(.int 2), (.int 1), (.int 6), (.int 1), (.int 2), (.int 14)]))) (some (.imm (.int 7))) (some (.imm (.int 5))) (some (.own (.lst [(.int 7), (.int 2), (.int 1), (.int 6), (.int 1), (.int 2), (.int 14)]))) (some (.imm (.int 6))) (some (.imm (.int 14))) (a11) none
  exact ⟨_, seg_S 9 _ (n54 a0 a1 a2 a3 a4 a5 a6 a7 a8 a9 a10 a11 a12) (seg_S 1 _ e (fin (a0) (a1) (a2) (a3) (a4) (a5) (a6) (a7) (a8) (some (.imm (.int 66))) (a10) y11 (some (.imm (.int 485))) (some (.imm (.int 54))) (some (.imm (.int 7))) (some (.imm (.tuple [(.int 2), (.int 1), (.int 6), (.int 1), (.int 2), (.int 14)]))) (some (.imm (.int 7))) (some (.imm (.int 5))) (some (.own (.lst [(.int 7), (.int 2), (.int 1), (.int 6), (.int 1), (.int 2), (.int 14)]))) (some (.imm (.int 6))) (some (.imm (.int 14))) y21))⟩
theorem n55 (a0 a1 a2 a3 a4 a5 a6 a7 a8 a9 a10 a11 a12 : OL) : denS Cl gc false Wd (takeS 9 (dropS 9 B)) [a0, a1, a2, a3, a4, a5, a6, a7, a8, a9, a10, a11, a12, some (.imm (.int 55)), none, none, none, none, none, none, none, none, none, none] = .next [a0, a1, a2, a3, a4, a5, a6, a7, a8, some (.imm (.int 12)), a10, a11, some (.imm (.int 89)), some (.imm (.int 55)), some (.imm (.int 7)), some (.imm (.tuple [(.int 2), (.int 2), (.int 2), (.int 14)])), some (.imm (.int 7)), some (.imm (.int 6)), some (.own (.lst [(.int 7), (.int 2), (.int 2), (.int 2), (.int 14)])), some (.imm (.int 4)), some (.imm (.int 14)), none, none, none] := by kernel_rfl
theorem c55 : chkW 55 11 = true := by kernel_rfl
theorem m55 (a0 a1 a2 a3 a4 a5 a6 a7 a8 a9 a10 a11 a12 : OL) : ∃ L1, denS Cl gc false Wd (dropS 9 B) [a0, a1, a2, a3, a4, a5, a6, a7, a8, a9, a10, a11, a12, some (.imm (.int 55)), none, none, none, none, none, none, none, none, none, none] = .ret (.imm (.bool true)) L1 := by
  obtain ⟨y11, y21, e⟩ := wfor (m := 55) (c := 11) (mi := 55) (v := 12) rfl (by decide) (by decide) (by decide) c55 (a0) (a1) (a2) (a3) (a4) (a5) (a6) (a7) (a8) (a10) (some (.imm (.int 89))) (some (.imm (.int 7))) (some (.imm (.tuple [(.int 2), (.int 2), (.int 2), (.int 14)]))) (some (.imm (.int 7))) (some (.imm (.int 6))) (some (.own (.lst [(.int 7), (.int 2), (.int 2), (.int 2), (.int 14)]))) (some (.imm (.int 4))) (some (.imm (.int 14))) (a11) none
  exact ⟨_, seg_S 9 _ (n55 a0 a1 a2 a3 a4 a5 a6 a7 a8 a9 a10 a11 a12) (seg_S 1 _ e (fin (a0) (a1) (a2) (a3) (a4) (a5) (a6) (a7) (a8) (some (.imm (.int 12))) (a10) y11 (some (.imm (.int 89))) (some (.imm (.int 55))) (some (.imm (.int 7))) (some (.imm (.tuple [(.int 2), (.int 2), (.int 2), (.int 14)]))) (some (.imm (.int 7))) (some (.imm (.int 6))) (some (.own (.lst [(.int 7), (.int 2), (.int 2), (.int 2), (.int 14)]))) (some (.imm (.int 4))) (some (.imm (.int 14))) y21))⟩
theorem n56 (a0 a1 a2 a3 a4 a5 a6 a7 a8 a9 a10 a11 a12 : OL) : denS Cl gc false Wd (takeS 9 (dropS 9 B)) [a0, a1, a2, a3, a4, a5, a6, a7, a8, a9, a10, a11, a12, some (.imm (.int 56)), none, none, none, none, none, none, none, none, none, none] = .next [a0, a1, a2, a3, a4, a5, a6, a7, a8, some (.imm (.int 2)), a10, a11, some (.imm (.int 15)), some (.imm (.int 56)), some (.imm (.int 7)), some (.imm (.tuple [(.int 2), (.int 14)])), some (.imm (.int 7)), some (.imm (.int 7)), some (.own (.lst [(.int 7), (.int 2), (.int 14)])), some (.imm (.int 2)), some (.imm (.int 14)), none, none, none] := by kernel_rfl
theorem c56 : chkW 56 1 = true := by kernel_rfl
theorem m56 (a0 a1 a2 a3 a4 a5 a6 a7 a8 a9 a10 a11 a12 : OL) : ∃ L1, denS Cl gc false Wd (dropS 9 B) [a0, a1, a2, a3, a4, a5, a6, a7, a8, a9, a10, a11, a12, some (.imm (.int 56)), none, none, none, none, none, none, none, none, none, none] = .ret (.imm (.bool true)) L1 := by
  obtain ⟨y11, y21, e⟩ := wfor (m := 56) (c := 1) (mi := 56) (v := 2) rfl (by decide) (by decide) (by decide) c56 (a0) (a1) (a2) (a3) (a4) (a5) (a6) (a7) (a8) (a10) (some (.imm (.int 15))) (some (.imm (.int 7))) (some (.imm (.tuple [(.int 2), (.int 14)]))) (some (.imm (.int 7))) (some (.imm (.int 7))) (some (.own (.lst [(.int 7), (.int 2), (.int 14)]))) (some (.imm (.int 2))) (some (.imm (.int 14))) (a11) none
  exact ⟨_, seg_S 9 _ (n56 a0 a1 a2 a3 a4 a5 a6 a7 a8 a9 a10 a11 a12) (seg_S 1 _ e (fin (a0) (a1) (a2) (a3) (a4) (a5) (a6) (a7) (a8) (some (.imm (.int 2))) (a10) y11 (some (.imm (.int 15))) (some (.imm (.int 56))) (some (.imm (.int 7))) (some (.imm (.tuple [(.int 2), (.int 14)]))) (some (.imm (.int 7))) (some (.imm (.int 7))) (some (.own (.lst [(.int 7), (.int 2), (.int 14)]))) (some (.imm (.int 2))) (some (.imm (.int 14))) y21))⟩
theorem n57 (a0 a1 a2 a3 a4 a5 a6 a7 a8 a9 a10 a11 a12 : OL) : denS Cl gc false Wd (takeS 9 (dropS 9 B)) [a0, a1, a2, a3, a4, a5, a6, a7, a8, a9, a10, a11, a12, some (.imm (.int 57)), none, none, none, none, none, none, none, none, none, none] = .next [a0, a1, a2, a3, a4, a5, a6, a7, a8, some (.imm (.int 20)), a10, a11, some (.imm (.int 151)), some (.imm (.int 57)), some (.imm (.int 7)), some (.imm (.tuple [(.int 1), (.int 1), (.int 4), (.int 1), (.int 1), (.int 14)])), some (.imm (.int 7)), some (.imm (.int 8)), some (.own (.lst [(.int 7), (.int 1), (.int 1), (.int 4), (.int 1), (.int 1), (.int 14)])), some (.imm (.int 6)), some (.imm (.int 14)), none, none, none] := by kernel_rfl
theorem c57 : chkW 57 19 = true := by kernel_rfl
theorem m57 (a0 a1 a2 a3 a4 a5 a6 a7 a8 a9 a10 a11 a12 : OL) : ∃ L1, denS Cl gc false Wd (dropS 9 B) [a0, a1, a2, a3, a4, a5, a6, a7, a8, a9, a10, a11, a12, some (.imm (.int 57)), none, none, none, none, none, none, none, none, none, none] = .ret (.imm (.bool true)) L1 := by
  obtain ⟨y11, y21, e⟩ := wfor (m := 57) (c := 19) (mi := 57) (v := 20) rfl (by decide) (by decide) (by decide) c57 (a0) (a1) (a2) (a3) (a4) (a5) (a6) (a7) (a8) (a10) (some (.imm (.int 151))) (some (.imm (.int 7))) (some (.imm (.tuple [(.int 1), (.int 1), (.int 4), (.int 1), (.int 1), (.int 14)]))) (some (.imm (.int 7))) (some (.imm (.int 8))) (some (.own (.lst [(.int 7), (.int 1), (.int 1), (.int 4), (.int 1), (.int 1), (.int 14)]))) (some (.imm (.int 6))) (some (.imm (.int 14))) (a11) none
  exact ⟨_, seg_S 9 _ (n57 a0 a1 a2 a3 a4 a5 a6 a7 a8 a9 a10 a11 a12) (seg_S 1 _ e (fin (a0) (a1) (a2) (a3) (a4) (a5) (a6) (a7) (a8) (some (.imm (.int 20))) (a10) y11 (some (.imm (.int 151))) (some (.imm (.int 57))) (some (.imm (.int 7))) (some (.imm (.tuple [(.int 1), (.int 1), (.int 4), (.int 1), (.int 1), (.int 14)]))) (some (.imm (.int 7))) (some (.imm (.int 8))) (some (.own (.lst [(.int 7), (.int 1), (.int 1), (.int 4), (.int 1), (.int 1), (.int 14)]))) (some (.imm (.int 6))) (some (.imm (.int 14))) y21))⟩
theorem n58 (a0 a1 a2 a3 a4 a5 a6 a7 a8 a9 a10 a11 a12 : OL) : denS Cl gc false Wd (takeS 9 (dropS 9 B)) [a0, a1, a2, a3, a4, a5, a6, a7, a8, a9, a10, a11, a12, some (.imm (.int 58)), none, none, none, none, none, none, none, none, none, none] = .next [a0, a1, a2, a3, a4, a5, a6, a7, a8, some (.imm (.int 2574)), a10, a11, some (.imm (.int 19603)), some (.imm (.int 58)), some (.imm (.int 7)), some (.imm (.tuple [(.int 1), (.int 1), (.int 1), (.int 1), (.int 1), (.int 1), (.int 14)])), some (.imm (.int 7)), some (.imm (.int 9)), some (.own (.lst [(.int 7), (.int 1), (.int 1), (.int 1), (.int 1), (.int 1), (.int 1), (.int 14)])), some (.imm (.int 7)), some (.imm (.int 14)), none, none, none] := by kernel_rfl
theorem c58 : chkW 58 2573 = true := by kernel_rfl
theorem m58 (a0 a1 a2 a3 a4 a5 a6 a7 a8 a9 a10 a11 a12 : OL) : ∃ L1, denS Cl gc false Wd (dropS 9 B) [a0, a1, a2, a3, a4, a5, a6, a7, a8, a9, a10, a11, a12, some (.imm (.int 58)), none, none, none, none, none, none, none, none, none, none] = .ret (.imm (.bool true)) L1 := by
  obtain ⟨y11, y21, e⟩ := wfor (m := 58) (c := 2573) (mi := 58) (v := 2574) rfl (by decide) (by decide) (by decide) c58 (a0) (a1) (a2) (a3) (a4) (a5) (a6) (a7) (a8) (a10) (some (.imm (.int 19603))) (some (.imm (.int 7))) (some (.imm (.tuple [(.int 1), (.int 1), (.int 1), (.int 1), (.int 1), (.int 1), (.int 14)]))) (some (.imm (.int 7))) (some (.imm (.int 9))) (some (.own (.lst [(.int 7), (.int 1), (.int 1), (.int 1), (.int 1), (.int 1), (.int 1), (.int 14)]))) (some (.imm (.int 7))) (some (.imm (.int 14))) (a11) none
  exact ⟨_, seg_S 9 _ (n58 a0 a1 a2 a3 a4 a5 a6 a7 a8 a9 a10 a11 a12) (seg_S 1 _ e (fin (a0) (a1) (a2) (a3) (a4) (a5) (a6) (a7) (a8) (some (.imm (.int 2574))) (a10) y11 (some (.imm (.int 19603))) (some (.imm (.int 58))) (some (.imm (.int 7))) (some (.imm (.tuple [(.int 1), (.int 1), (.int 1), (.int 1), (.int 1), (.int 1), (.int 14)]))) (some (.imm (.int 7))) (some (.imm (.int 9))) (some (.own (.lst [(.int 7), (.int 1), (.int 1), (.int 1), (.int 1), (.int 1), (.int 1), (.int 14)]))) (some (.imm (.int 7))) (some (.imm (.int 14))) y21))⟩
theorem n59 (a0 a1 a2 a3 a4 a5 a6 a7 a8 a9 a10 a11 a12 : OL) : denS Cl gc false Wd (takeS 9 (dropS 9 B)) [a0, a1, a2, a3, a4, a5, a6, a7, a8, a9, a10, a11, a12, some (.imm (.int 59)), none, none, none, none, none, none, none, none, none, none] = .next [a0, a1, a2, a3, a4, a5, a6, a7, a8, some (.imm (.int 69)), a10, a11, some (.imm (.int 530)), some (.imm (.int 59)), some (.imm (.int 7)), some (.imm (.tuple [(.int 1), (.int 2), (.int 7), (.int 2), (.int 1), (.int 14)])), some (.imm (.int 7)), some (.imm (.int 10)), some (.own (.lst [(.int 7), (.int 1), (.int 2), (.int 7), (.int 2), (.int 1), (.int 14)])), some (.imm (.int 6)), some (.imm (.int 14)), none, none, none] := by kernel_rfl
theorem c59 : chkW 59 68 = true := by kernel_rfl
theorem m59 (a0 a1 a2 a3 a4 a5 a6 a7 a8 a9 a10 a11 a12 : OL) : ∃ L1, denS Cl gc false Wd (dropS 9 B) [a0, a1, a2, a3, a4, a5, a6, a7, a8, a9, a10, a11, a12, some (.imm (.int 59)), none, none, none, none, none, none, none, none, none, none] = .ret (.imm (.bool true)) L1 := by
  obtain ⟨y11, y21, e⟩ := wfor (m := 59) (c := 68) (mi := 59) (v := 69) rfl (by decide) (by decide) (by decide) c59 (a0) (a1) (a2) (a3) (a4) (a5) (a6) (a7) (a8) (a10) (some (.imm (.int 530))) (some (.imm (.int 7))) (some (.imm (.tuple [(.int 1), (.int 2), (.int 7), (.int 2), (.int 1), (.int 14)]))) (some (.imm (.int 7))) (some (.imm (.int 10))) (some (.own (.lst [(.int 7), (.int 1), (.int 2), (.int 7), (.int 2), (.int 1), (.int 14)]))) (some (.imm (.int 6))) (some (.imm (.int 14))) (a11) none
  exact ⟨_, seg_S 9 _ (n59 a0 a1 a2 a3 a4 a5 a6 a7 a8 a9 a10 a11 a12) (seg_S 1 _ e (fin (a0) (a1) (a2) (a3) (a4) (a5) (a6) (a7) (a8) (some (.imm (.int 69))) (a10) y11 (some (.imm (.int 530))) (some (.imm (.int 59))) (some (.imm (.int 7))) (some (.imm (.tuple [(.int 1), (.int 2), (.int 7), (.int 2), (.int 1), (.int 14)]))) (some (.imm (.int 7))) (some (.imm (.int 10))) (some (.own (.lst [(.int 7), (.int 1), (.int 2), (.int 7), (.int 2), (.int 1), (.int 14)]))) (some (.imm (.int 6))) (some (.imm (.int 14))) y21))⟩
theorem n60 (a0 a1 a2 a3 a4 a5 a6 a7 a8 a9 a10 a11 a12 : OL) : denS Cl gc false Wd (takeS 9 (dropS 9 B)) [a0, a1, a2, a3, a4, a5, a6, a7, a8, a9, a10, a11, a12, some (.imm (.int 60)), none, none, none, none, none, none, none, none, none, none] = .next [a0, a1, a2, a3, a4, a5, a6, a7, a8, some (.imm (.int 4)), a10, a11, some (.imm (.int 31)), some (.imm (.int 60)), some (.imm (.int 7)), some (.imm (.tuple [(.int 1), (.int 2), (.int 1), (.int 14)])), some (.imm (.int 7)), some (.imm (.int 11)), some (.own (.lst [(.int 7), (.int 1), (.int 2), (.int 1), (.int 14)])), some (.imm (.int 4)), some (.imm (.int 14)), none, none, none] := by kernel_rfl
theorem c60 : chkW 60 3 = true := by kernel_rfl
theorem m60 (a0 a1 a2 a3 a4 a5 a6 a7 a8 a9 a10 a11 a12 : OL) : ∃ L1, denS Cl gc false Wd (dropS 9 B) [a0, a1, a2, a3, a4, a5, a6, a7, a8, a9, a10, a11, a12, some (.imm (.int 60)), none, none, none, none, none, none, none, none, none, none] = .ret (.imm (.bool true)) L1 := by
  obtain ⟨y11, y21, e⟩ := wfor (m := 60) (c := 3) (mi := 60) (v := 4) rfl (by decide) (by decide) (by decide) c60 (a0) (a1) (a2) (a3) (a4) (a5) (a6) (a7) (a8) (a10) (some (.imm (.int 31))) (some (.imm (.int 7))) (some (.imm (.tuple [(.int 1), (.int 2), (.int 1), (.int 14)]))) (some (.imm (.int 7))) (some (.imm (.int 11))) (some (.own (.lst [(.int 7), (.int 1), (.int 2), (.int 1), (.int 14)]))) (some (.imm (.int 4))) (some (.imm (.int 14))) (a11) none
  exact ⟨_, seg_S 9 _ (n60 a0 a1 a2 a3 a4 a5 a6 a7 a8 a9 a10 a11 a12) (seg_S 1 _ e (fin (a0) (a1) (a2) (a3) (a4) (a5) (a6) (a7) (a8) (some (.imm (.int 4))) (a10) y11 (some (.imm (.int 31))) (some (.imm (.int 60))) (some (.imm (.int 7))) (some (.imm (.tuple [(.int 1), (.int 2), (.int 1), (.int 14)]))) (some (.imm (.int 7))) (some (.imm (.int 11))) (some (.own (.lst [(.int 7), (.int 1), (.int 2), (.int 1), (.int 14)]))) (some (.imm (.int 4))) (some (.imm (.int 14))) y21))⟩
theorem n61 (a0 a1 a2 a3 a4 a5 a6 a7 a8 a9 a10 a11 a12 : OL) : denS Cl gc false Wd (takeS 9 (dropS 9 B)) [a0, a1, a2, a3, a4, a5, a6, a7, a8, a9, a10, a11, a12, some (.imm (.int 61)), none, none, none, none, none, none, none, none, none, none] = .next [a0, a1, a2, a3, a4, a5, a6, a7, a8, some (.imm (.int 226153980)), a10, a11, some (.imm (.int 1766319049)), some (.imm (.int 61)), some (.imm (.int 7)), some (.imm (.tuple [(.int 1), (.int 4), (.int 3), (.int 1), (.int 2), (.int 2), (.int 1), (.int 3), (.int 4), (.int 1), (.int 14)])), some (.imm (.int 7)), some (.imm (.int 12)), some (.own (.lst [(.int 7), (.int 1), (.int 4), (.int 3), (.int 1), (.int 2), (.int 2), (.int 1), (.int 3), (.int 4), (.int 1), (.int 14)])), some (.imm (.int 11)), some (.imm (.int 14)), none, none, none] := by kernel_rfl
theorem c61 : chkW 61 2999 = true := by kernel_rfl
theorem m61 (a0 a1 a2 a3 a4 a5 a6 a7 a8 a9 a10 a11 a12 : OL) : ∃ L1, denS Cl gc false Wd (dropS 9 B) [a0, a1, a2, a3, a4, a5, a6, a7, a8, a9, a10, a11, a12, some (.imm (.int 61)), none, none, none, none, none, none, none, none, none, none] = .ret (.imm (.bool true)) L1 := by
  obtain ⟨y11, y21, e⟩ := wfor (m := 61) (c := 2999) (mi := 61) (v := 226153980) rfl (by decide) (by decide) (by decide) c61 (a0) (a1) (a2) (a3) (a4) (a5) (a6) (a7) (a8) (a10) (some (.imm (.int 1766319049))) (some (.imm (.int 7))) (some (.imm (.tuple [(.int 1), (.int 4), (.int 3), (.int 1), (.int 2), (.int 2), (.int 1), (.int 3), (.int 4), (.int 1), (.int 14)]))) (some (.imm (.int 7))) (some (.imm (.int 12))) (some (.own (.lst [(.int 7), (.int 1), (.int 4), (.int 3), (.int 1), (.int 2), (.int 2), (.int 1), (.int 3), (.int 4), (.int 1), (.int 14)]))) (some (.imm (.int 11))) (some (.imm (.int 14))) (a11) none
  exact ⟨_, seg_S 9 _ (n61 a0 a1 a2 a3 a4 a5 a6 a7 a8 a9 a10 a11 a12) (seg_S 1 _ e (fin (a0) (a1) (a2) (a3) (a4) (a5) (a6) (a7) (a8) (some (.imm (.int 226153980))) (a10) y11 (some (.imm (.int 1766319049))) (some (.imm (.int 61))) (some (.imm (.int 7))) (some (.imm (.tuple [(.int 1), (.int 4), (.int 3), (.int 1), (.int 2), (.int 2), (.int 1), (.int 3), (.int 4), (.int 1), (.int 14)]))) (some (.imm (.int 7))) (some (.imm (.int 12))) (some (.own (.lst [(.int 7), (.int 1), (.int 4), (.int 3), (.int 1), (.int 2), (.int 2), (.int 1), (.int 3), (.int 4), (.int 1), (.int 14)]))) (some (.imm (.int 11))) (some (.imm (.int 14))) y21))⟩
theorem fromM {n : Nat} {v : LVal} (t : Tp n v) (hn : n < 1000000) (a0 a2 a3 a4 a5 a6 a7 a8 a9 a10 a11 a12 : OL) : ∃ L1, denS Cl gc false Wd (dropS 8 B) [a0, some v, a2, a3, a4, a5, a6, a7, a8, a9, a10, a11, a12, none, none, none, none, none, none, none, none, none, none, none] = .ret (.imm (.bool true)) L1 := by
  obtain ⟨r, v', e, t', r0, r1⟩ := take_ok (C := calls gc Wd P 28) (G := gc) (W := Wd) (m := 60) t (by omega) (by decide) (by decide)
  have e' : Cl 9 [v, .imm (.int 60)] = .ok (.imm (.int r)) (some v') := e
  obtain ⟨cs, a, l, s, z, rfl, _⟩ := t
  have q : denS Cl gc false Wd (takeS 1 (dropS 8 B)) [a0, some (.own (.dic (tpL (.list (cs.map .int)) a l s z))), a2, a3, a4, a5, a6, a7, a8, a9, a10, a11, a12, none, none, none, none, none, none, none, none, none, none, none] = .next [a0, some v', a2, a3, a4, a5, a6, a7, a8, a9, a10, a11, a12, some (.imm (.int (2 + r))), none, none, none, none, none, none, none, none, none, none] := by
    have d := draw_F (C := Cl) (G := gc) (f := 9) (i := 1) (L := [a0, some (.own (.dic (tpL (.list (cs.map .int)) a l s z))), a2, a3, a4, a5, a6, a7, a8, a9, a10, a11, a12, none, none, none, none, none, none, none, none, none, none, none]) rfl e'
    refine seq_next (L1 := [a0, some v', a2, a3, a4, a5, a6, a7, a8, a9, a10, a11, a12, some (.imm (.int (2 + r))), none, none, none, none, none, none, none, none, none, none]) ?_ rfl
    show asgS false 13 (binF .add (cstF (.int 2)) (den Cl gc false (.callT 9 1 (.cons (.cst (.int 60)) .nil))).e) _ = _
    simp [asgS, binF, twoF, cstF, Res.bind, Res.toS, d, rd, opB, opAdd, ofOpt, fixP, asgV, setV]
  have key : ∃ L1, denS Cl gc false Wd (dropS 9 B) [a0, some v', a2, a3, a4, a5, a6, a7, a8, a9, a10, a11, a12, some (.imm (.int (2 + r))), none, none, none, none, none, none, none, none, none, none] = .ret (.imm (.bool true)) L1 := by
    have c : r = 0 ∨ r = 1 ∨ r = 2 ∨ r = 3 ∨ r = 4 ∨ r = 5 ∨ r = 6 ∨ r = 7 ∨ r = 8 ∨ r = 9 ∨ r = 10 ∨ r = 11 ∨ r = 12 ∨ r = 13 ∨ r = 14 ∨ r = 15 ∨ r = 16 ∨ r = 17 ∨ r = 18 ∨ r = 19 ∨ r = 20 ∨ r = 21 ∨ r = 22 ∨ r = 23 ∨ r = 24 ∨ r = 25 ∨ r = 26 ∨ r = 27 ∨ r = 28 ∨ r = 29 ∨ r = 30 ∨ r = 31 ∨ r = 32 ∨ r = 33 ∨ r = 34 ∨ r = 35 ∨ r = 36 ∨ r = 37 ∨ r = 38 ∨ r = 39 ∨ r = 40 ∨ r = 41 ∨ r = 42 ∨ r = 43 ∨ r = 44 ∨ r = 45 ∨ r = 46 ∨ r = 47 ∨ r = 48 ∨ r = 49 ∨ r = 50 ∨ r = 51 ∨ r = 52 ∨ r = 53 ∨ r = 54 ∨ r = 55 ∨ r = 56 ∨ r = 57 ∨ r = 58 ∨ r = 59 := by omega
    rcases c with rfl | rfl | rfl | rfl | rfl | rfl | rfl | rfl | rfl | rfl | rfl | rfl | rfl | rfl | rfl | rfl | rfl | rfl | rfl | rfl | rfl | rfl | rfl | rfl | rfl | rfl | rfl | rfl | rfl | rfl | rfl | rfl | rfl | rfl | rfl | rfl | rfl | rfl | rfl | rfl | rfl | rfl | rfl | rfl | rfl | rfl | rfl | rfl | rfl | rfl | rfl | rfl | rfl | rfl | rfl | rfl | rfl | rfl | rfl | rfl
    · exact m2 a0 (some v') a2 a3 a4 a5 a6 a7 a8 a9 a10 a11 a12
    · exact m3 a0 (some v') a2 a3 a4 a5 a6 a7 a8 a9 a10 a11 a12
    · exact m4 a0 (some v') a2 a3 a4 a5 a6 a7 a8 a9 a10 a11 a12
    · exact m5 a0 (some v') a2 a3 a4 a5 a6 a7 a8 a9 a10 a11 a12
    · exact m6 a0 (some v') a2 a3 a4 a5 a6 a7 a8 a9 a10 a11 a12
    · exact m7 a0 (some v') a2 a3 a4 a5 a6 a7 a8 a9 a10 a11 a12
    · exact m8 a0 (some v') a2 a3 a4 a5 a6 a7 a8 a9 a10 a11 a12
    · exact m9 a0 (some v') a2 a3 a4 a5 a6 a7 a8 a9 a10 a11 a12
    · exact m10 a0 (some v') a2 a3 a4 a5 a6 a7 a8 a9 a10 a11 a12
    · exact m11 a0 (some v') a2 a3 a4 a5 a6 a7 a8 a9 a10 a11 a12
    · exact m12 a0 (some v') a2 a3 a4 a5 a6 a7 a8 a9 a10 a11 a12
    · exact m13 a0 (some v') a2 a3 a4 a5 a6 a7 a8 a9 a10 a11 a12
    · exact m14 a0 (some v') a2 a3 a4 a5 a6 a7 a8 a9 a10 a11 a12
    · exact m15 a0 (some v') a2 a3 a4 a5 a6 a7 a8 a9 a10 a11 a12
    · exact m16 a0 (some v') a2 a3 a4 a5 a6 a7 a8 a9 a10 a11 a12
    · exact m17 a0 (some v') a2 a3 a4 a5 a6 a7 a8 a9 a10 a11 a12
    · exact m18 a0 (some v') a2 a3 a4 a5 a6 a7 a8 a9 a10 a11 a12
    · exact m19 a0 (some v') a2 a3 a4 a5 a6 a7 a8 a9 a10 a11 a12
    · exact m20 a0 (some v') a2 a3 a4 a5 a6 a7 a8 a9 a10 a11 a12
    · exact m21 a0 (some v') a2 a3 a4 a5 a6 a7 a8 a9 a10 a11 a12
    · exact m22 a0 (some v') a2 a3 a4 a5 a6 a7 a8 a9 a10 a11 a12
    · exact m23 a0 (some v') a2 a3 a4 a5 a6 a7 a8 a9 a10 a11 a12
    · exact m24 a0 (some v') a2 a3 a4 a5 a6 a7 a8 a9 a10 a11 a12
    · exact m25 a0 (some v') a2 a3 a4 a5 a6 a7 a8 a9 a10 a11 a12
    · exact m26 a0 (some v') a2 a3 a4 a5 a6 a7 a8 a9 a10 a11 a12
    · exact m27 a0 (some v') a2 a3 a4 a5 a6 a7 a8 a9 a10 a11 a12
    · exact m28 a0 (some v') a2 a3 a4 a5 a6 a7 a8 a9 a10 a11 a12
    · exact m29 a0 (some v') a2 a3 a4 a5 a6 a7 a8 a9 a10 a11 a12
    · exact m30 a0 (some v') a2 a3 a4 a5 a6 a7 a8 a9 a10 a11 a12
    · exact m31 a0 (some v') a2 a3 a4 a5 a6 a7 a8 a9 a10 a11 a12
    · exact m32 a0 (some v') a2 a3 a4 a5 a6 a7 a8 a9 a10 a11 a12
    · exact m33 a0 (some v') a2 a3 a4 a5 a6 a7 a8 a9 a10 a11 a12
    · exact m34 a0 (some v') a2 a3 a4 a5 a6 a7 a8 a9 a10 a11 a12
    · exact m35 a0 (some v') a2 a3 a4 a5 a6 a7 a8 a9 a10 a11 a12
    · exact m36 a0 (some v') a2 a3 a4 a5 a6 a7 a8 a9 a10 a11 a12
    · exact m37 a0 (some v') a2 a3 a4 a5 a6 a7 a8 a9 a10 a11 a12
    · exact m38 a0 (some v') a2 a3 a4 a5 a6 a7 a8 a9 a10 a11 a12
    · exact m39 a0 (some v') a2 a3 a4 a5 a6 a7 a8 a9 a10 a11 a12
    · exact m40 a0 (some v') a2 a3 a4 a5 a6 a7 a8 a9 a10 a11 a12
    · exact m41 a0 (some v') a2 a3 a4 a5 a6 a7 a8 a9 a10 a11 a12
    · exact m42 a0 (some v') a2 a3 a4 a5 a6 a7 a8 a9 a10 a11 a12
    · exact m43 a0 (some v') a2 a3 a4 a5 a6 a7 a8 a9 a10 a11 a12
    · exact m44 a0 (some v') a2 a3 a4 a5 a6 a7 a8 a9 a10 a11 a12
    · exact m45 a0 (some v') a2 a3 a4 a5 a6 a7 a8 a9 a10 a11 a12
    · exact m46 a0 (some v') a2 a3 a4 a5 a6 a7 a8 a9 a10 a11 a12
    · exact m47 a0 (some v') a2 a3 a4 a5 a6 a7 a8 a9 a10 a11 a12
    · exact m48 a0 (some v') a2 a3 a4 a5 a6 a7 a8 a9 a10 a11 a12
    · exact m49 a0 (some v') a2 a3 a4 a5 a6 a7 a8 a9 a10 a11 a12
    · exact m50 a0 (some v') a2 a3 a4 a5 a6 a7 a8 a9 a10 a11 a12
    · exact m51 a0 (some v') a2 a3 a4 a5 a6 a7 a8 a9 a10 a11 a12
    · exact m52 a0 (some v') a2 a3 a4 a5 a6 a7 a8 a9 a10 a11 a12
    · exact m53 a0 (some v') a2 a3 a4 a5 a6 a7 a8 a9 a10 a11 a12
    · exact m54 a0 (some v') a2 a3 a4 a5 a6 a7 a8 a9 a10 a11 a12
    · exact m55 a0 (some v') a2 a3 a4 a5 a6 a7 a8 a9 a10 a11 a12
    · exact m56 a0 (some v') a2 a3 a4 a5 a6 a7 a8 a9 a10 a11 a12
    · exact m57 a0 (some v') a2 a3 a4 a5 a6 a7 a8 a9 a10 a11 a12
    · exact m58 a0 (some v') a2 a3 a4 a5 a6 a7 a8 a9 a10 a11 a12
    · exact m59 a0 (some v') a2 a3 a4 a5 a6 a7 a8 a9 a10 a11 a12
    · exact m60 a0 (some v') a2 a3 a4 a5 a6 a7 a8 a9 a10 a11 a12
    · exact m61 a0 (some v') a2 a3 a4 a5 a6 a7 a8 a9 a10 a11 a12
  obtain ⟨L1, k⟩ := key
  exact ⟨L1, seg_S 1 _ q k⟩
theorem plain (ns : List Int) (hl : ns.length ≤ 63) : ∃ z, Fw.calls gc Wd P 30 nLaw [.imm (.list (ns.map .int))] = .ok (.imm (.bool true)) z := by
  obtain ⟨v0, e0, t0⟩ := tape_ok (C := calls gc Wd P 28) (G := gc) (W := Wd) ns (by omega)
  have e0' : Cl 0 [.imm (.list (ns.map .int))] = .ok v0 none := e0
  obtain ⟨r, v', e, t', r0, r1⟩ := take_ok (C := calls gc Wd P 28) (G := gc) (W := Wd) (m := 21) t0 (by decide) (by decide) (by decide)
  have e' : Cl 9 [v0, .imm (.int 21)] = .ok (.imm (.int r)) (some v') := e
  obtain ⟨cs, a, l, s, z, rfl, _⟩ := t0
  have q0 : denS Cl gc false Wd (takeS 2 B) [some (.imm (.list (ns.map .int))), none, none, none, none, none, none, none, none, none, none, none, none, none, none, none, none, none, none, none, none, none, none, none] = .next [some (.imm (.list (ns.map .int))), some (.own (.dic (tpL (.list (cs.map .int)) a l s z))), some dsV, none, none, none, none, none, none, none, none, none, none, none, none, none, none, none, none, none, none, none, none, none] := by
    refine seq_next (L1 := [some (.imm (.list (ns.map .int))), some (.own (.dic (tpL (.list (cs.map .int)) a l s z))), none, none, none, none, none, none, none, none, none, none, none, none, none, none, none, none, none, none, none, none, none, none]) ?_ rfl
    show asgS false 1 (callF Cl 0 (consA (varF 0) nilA)) _ = _
    simp [asgS, callF, keptF, consA, nilA, varF, getL, keepAll, keepD, callK, Res.bind, Res.toS, e0', fixP, asgV, setV]
  have d := draw_F (C := Cl) (G := gc) (f := 9) (i := 1) (L := [some (.imm (.list (ns.map .int))), some (.own (.dic (tpL (.list (cs.map .int)) a l s z))), some dsV, none, none, none, none, none, none, none, none, none, none, none, none, none, none, none, none, none, none, none, none, none]) rfl e'
  have key : ∃ x L1, denS Cl gc false Wd (takeS 1 (dropS 2 B)) [some (.imm (.list (ns.map .int))), some (.own (.dic (tpL (.list (cs.map .int)) a l s z))), some dsV, none, none, none, none, none, none, none, none, none, none, none, none, none, none, none, none, none, none, none, none, none] = .next [some (.imm (.list (ns.map .int))), some v', some dsV, some (.imm x), none, none, none, none, none, none, none, none, none, none, none, none, none, none, none, none, none, none, none, none] ∧
      denS Cl gc false Wd (takeS 5 (dropS 3 B)) [some (.imm (.list (ns.map .int))), some v', some dsV, some (.imm x), none, none, none, none, none, none, none, none, none, none, none, none, none, none, none, none, none, none, none, none] = .next L1 ∧ ∃ L2, denS Cl gc false Wd (dropS 8 B) L1 = .ret (.imm (.bool true)) L2 := by
    have st : ∀ x, itemD (.list [.int 2, .int 3, .int 5, .int 6, .int 7, .int 10, .int 11, .int 13, .int 14, .int 15, .int 17, .int 21, .int 29, .int 33, .int 37, .int 41, .int 53, .int 65, .int 69, .int 77, .int 85]) (.int r) = some x → denS Cl gc false Wd (takeS 1 (dropS 2 B)) [some (.imm (.list (ns.map .int))), some (.own (.dic (tpL (.list (cs.map .int)) a l s z))), some dsV, none, none, none, none, none, none, none, none, none, none, none, none, none, none, none, none, none, none, none, none, none] = .next [some (.imm (.list (ns.map .int))), some v', some dsV, some (.imm x), none, none, none, none, none, none, none, none, none, none, none, none, none, none, none, none, none, none, none, none] := fun x hx => by
      exact seq_next (L1 := [some (.imm (.list (ns.map .int))), some v', some dsV, some (.imm x), none, none, none, none, none, none, none, none, none, none, none, none, none, none, none, none, none, none, none, none]) (asg_pick rfl rfl (by decide) (by show 3 < 24; decide) e' hx) rfl
    have c : r = 0 ∨ r = 1 ∨ r = 2 ∨ r = 3 ∨ r = 4 ∨ r = 5 ∨ r = 6 ∨ r = 7 ∨ r = 8 ∨ r = 9 ∨ r = 10 ∨ r = 11 ∨ r = 12 ∨ r = 13 ∨ r = 14 ∨ r = 15 ∨ r = 16 ∨ r = 17 ∨ r = 18 ∨ r = 19 ∨ r = 20 := by omega
    rcases c with rfl | rfl | rfl | rfl | rfl | rfl | rfl | rfl | rfl | rfl | rfl | rfl | rfl | rfl | rfl | rfl | rfl | rfl | rfl | rfl | rfl
    · exact ⟨_, _, st _ rfl, mid0 (some (.imm (.list (ns.map .int)))) (some v') (some dsV), fromM t' (by decide) (some (.imm (.list (ns.map .int)))) (some dsV) (some (.imm (.int 2))) (some (.imm (.int 1))) (some (.imm (.int 1))) (some (.imm (.int 1))) (some (.imm (.int (-1)))) (some (.imm (.int 2))) (some (.imm (.int 1))) (some (.imm (.int 4))) (some (.imm (.int 6))) (none)⟩
    · exact ⟨_, _, st _ rfl, mid1 (some (.imm (.list (ns.map .int)))) (some v') (some dsV), fromM t' (by decide) (some (.imm (.list (ns.map .int)))) (some dsV) (some (.imm (.int 3))) (some (.imm (.int 2))) (some (.imm (.int 1))) (some (.imm (.int 1))) (some (.imm (.int 1))) (some (.imm (.int 2))) (some (.imm (.int 1))) (some (.imm (.int 4))) (some (.imm (.int 7))) (none)⟩
    · exact ⟨_, _, st _ rfl, mid2 (some (.imm (.list (ns.map .int)))) (some v') (some dsV), fromM t' (by decide) (some (.imm (.list (ns.map .int)))) (some dsV) (some (.imm (.int 5))) (some (.imm (.int 1))) (some (.imm (.int 1))) (some (.imm (.int 2))) (some (.imm (.int (-4)))) (some (.imm (.int 1))) (none) (none) (none) (none)⟩
    · exact ⟨_, _, st _ rfl, mid3 (some (.imm (.list (ns.map .int)))) (some v') (some dsV), fromM t' (by decide) (some (.imm (.list (ns.map .int)))) (some dsV) (some (.imm (.int 6))) (some (.imm (.int 5))) (some (.imm (.int 2))) (some (.imm (.int 1))) (some (.imm (.int 1))) (some (.imm (.int 2))) (some (.imm (.int 3))) (some (.imm (.int 4))) (some (.imm (.int 58))) (none)⟩
    · exact ⟨_, _, st _ rfl, mid4 (some (.imm (.list (ns.map .int)))) (some v') (some dsV), fromM t' (by decide) (some (.imm (.list (ns.map .int)))) (some dsV) (some (.imm (.int 7))) (some (.imm (.int 8))) (some (.imm (.int 3))) (some (.imm (.int 1))) (some (.imm (.int 1))) (some (.imm (.int 2))) (some (.imm (.int 5))) (some (.imm (.int 4))) (some (.imm (.int 179))) (none)⟩
    · exact ⟨_, _, st _ rfl, mid5 (some (.imm (.list (ns.map .int)))) (some v') (some dsV), fromM t' (by decide) (some (.imm (.list (ns.map .int)))) (some dsV) (some (.imm (.int 10))) (some (.imm (.int 3))) (some (.imm (.int 1))) (some (.imm (.int 1))) (some (.imm (.int (-1)))) (some (.imm (.int 2))) (some (.imm (.int 1))) (some (.imm (.int 4))) (some (.imm (.int 14))) (none)⟩
    · exact ⟨_, _, st _ rfl, mid6 (some (.imm (.list (ns.map .int)))) (some v') (some dsV), fromM t' (by decide) (some (.imm (.list (ns.map .int)))) (some dsV) (some (.imm (.int 11))) (some (.imm (.int 10))) (some (.imm (.int 3))) (some (.imm (.int 1))) (some (.imm (.int 1))) (some (.imm (.int 2))) (some (.imm (.int 5))) (some (.imm (.int 4))) (some (.imm (.int 279))) (none)⟩
    · exact ⟨_, _, st _ rfl, mid7 (some (.imm (.list (ns.map .int)))) (some v') (some dsV), fromM t' (by decide) (some (.imm (.list (ns.map .int)))) (some dsV) (some (.imm (.int 13))) (some (.imm (.int 3))) (some (.imm (.int 1))) (some (.imm (.int 2))) (some (.imm (.int (-4)))) (some (.imm (.int 1))) (none) (none) (none) (none)⟩
    · exact ⟨_, _, st _ rfl, mid8 (some (.imm (.list (ns.map .int)))) (some v') (some dsV), fromM t' (by decide) (some (.imm (.list (ns.map .int)))) (some dsV) (some (.imm (.int 14))) (some (.imm (.int 15))) (some (.imm (.int 4))) (some (.imm (.int 1))) (some (.imm (.int 1))) (some (.imm (.int 2))) (some (.imm (.int 7))) (some (.imm (.int 4))) (some (.imm (.int 690))) (none)⟩
    · exact ⟨_, _, st _ rfl, mid9 (some (.imm (.list (ns.map .int)))) (some v') (some dsV), fromM t' (by decide) (some (.imm (.list (ns.map .int)))) (some dsV) (some (.imm (.int 15))) (some (.imm (.int 4))) (some (.imm (.int 1))) (some (.imm (.int 1))) (some (.imm (.int 1))) (some (.imm (.int 2))) (some (.imm (.int 1))) (some (.imm (.int 4))) (some (.imm (.int 19))) (none)⟩
    · exact ⟨_, _, st _ rfl, mid10 (some (.imm (.list (ns.map .int)))) (some v') (some dsV), fromM t' (by decide) (some (.imm (.list (ns.map .int)))) (some dsV) (some (.imm (.int 17))) (some (.imm (.int 4))) (some (.imm (.int 1))) (some (.imm (.int 1))) (some (.imm (.int (-1)))) (some (.imm (.int 2))) (some (.imm (.int 1))) (some (.imm (.int 4))) (some (.imm (.int 21))) (none)⟩
    · exact ⟨_, _, st _ rfl, mid11 (some (.imm (.list (ns.map .int)))) (some v') (some dsV), fromM t' (by decide) (some (.imm (.list (ns.map .int)))) (some dsV) (some (.imm (.int 21))) (some (.imm (.int 5))) (some (.imm (.int 1))) (some (.imm (.int 2))) (some (.imm (.int 4))) (some (.imm (.int 1))) (none) (none) (none) (none)⟩
    · exact ⟨_, _, st _ rfl, mid12 (some (.imm (.list (ns.map .int)))) (some v') (some dsV), fromM t' (by decide) (some (.imm (.list (ns.map .int)))) (some dsV) (some (.imm (.int 29))) (some (.imm (.int 5))) (some (.imm (.int 1))) (some (.imm (.int 2))) (some (.imm (.int (-4)))) (some (.imm (.int 1))) (none) (none) (none) (none)⟩
    · exact ⟨_, _, st _ rfl, mid13 (some (.imm (.list (ns.map .int)))) (some v') (some dsV), fromM t' (by decide) (some (.imm (.list (ns.map .int)))) (some dsV) (some (.imm (.int 33))) (some (.imm (.int 23))) (some (.imm (.int 4))) (some (.imm (.int 1))) (some (.imm (.int 1))) (some (.imm (.int 2))) (some (.imm (.int 7))) (some (.imm (.int 4))) (some (.imm (.int 1621))) (none)⟩
    · exact ⟨_, _, st _ rfl, mid14 (some (.imm (.list (ns.map .int)))) (some v') (some dsV), fromM t' (by decide) (some (.imm (.list (ns.map .int)))) (some dsV) (some (.imm (.int 37))) (some (.imm (.int 6))) (some (.imm (.int 1))) (some (.imm (.int 1))) (some (.imm (.int (-1)))) (some (.imm (.int 2))) (some (.imm (.int 1))) (some (.imm (.int 4))) (some (.imm (.int 41))) (none)⟩
    · exact ⟨_, _, st _ rfl, mid15 (some (.imm (.list (ns.map .int)))) (some v') (some dsV), fromM t' (by decide) (some (.imm (.list (ns.map .int)))) (some dsV) (some (.imm (.int 41))) (some (.imm (.int 32))) (some (.imm (.int 5))) (some (.imm (.int 1))) (some (.imm (.int (-1)))) (some (.imm (.int 2))) (some (.imm (.int 9))) (some (.imm (.int 4))) (some (.imm (.int 3325))) (none)⟩
    · exact ⟨_, _, st _ rfl, mid16 (some (.imm (.list (ns.map .int)))) (some v') (some dsV), fromM t' (by decide) (some (.imm (.list (ns.map .int)))) (some dsV) (some (.imm (.int 53))) (some (.imm (.int 7))) (some (.imm (.int 1))) (some (.imm (.int 2))) (some (.imm (.int (-4)))) (some (.imm (.int 1))) (none) (none) (none) (none)⟩
    · exact ⟨_, _, st _ rfl, mid17 (some (.imm (.list (ns.map .int)))) (some v') (some dsV), fromM t' (by decide) (some (.imm (.list (ns.map .int)))) (some dsV) (some (.imm (.int 65))) (some (.imm (.int 8))) (some (.imm (.int 1))) (some (.imm (.int 1))) (some (.imm (.int (-1)))) (some (.imm (.int 2))) (some (.imm (.int 1))) (some (.imm (.int 4))) (some (.imm (.int 69))) (none)⟩
    · exact ⟨_, _, st _ rfl, mid18 (some (.imm (.list (ns.map .int)))) (some v') (some dsV), fromM t' (by decide) (some (.imm (.list (ns.map .int)))) (some dsV) (some (.imm (.int 69))) (some (.imm (.int 25))) (some (.imm (.int 3))) (some (.imm (.int 2))) (some (.imm (.int 4))) (some (.imm (.int 1))) (some (.imm (.int 2))) (some (.imm (.int 4))) (some (.imm (.int 280))) (none)⟩
    · exact ⟨_, _, st _ rfl, mid19 (some (.imm (.list (ns.map .int)))) (some v') (some dsV), fromM t' (by decide) (some (.imm (.list (ns.map .int)))) (some dsV) (some (.imm (.int 77))) (some (.imm (.int 9))) (some (.imm (.int 1))) (some (.imm (.int 2))) (some (.imm (.int 4))) (some (.imm (.int 1))) (none) (none) (none) (none)⟩
    · exact ⟨_, _, st _ rfl, mid20 (some (.imm (.list (ns.map .int)))) (some v') (some dsV), fromM t' (by decide) (some (.imm (.list (ns.map .int)))) (some dsV) (some (.imm (.int 85))) (some (.imm (.int 9))) (some (.imm (.int 1))) (some (.imm (.int 2))) (some (.imm (.int (-4)))) (some (.imm (.int 1))) (none) (none) (none) (none)⟩
  obtain ⟨x, L1, k1, k2, L2, k3⟩ := key
  have fin : denS Cl gc false Wd B [some (.imm (.list (ns.map .int))), none, none, none, none, none, none, none, none, none, none, none, none, none, none, none, none, none, none, none, none, none, none, none] = .ret (.imm (.bool true)) L2 := seg_S 2 _ q0 (seg_S 1 _ k1 (seg_S 5 _ k2 k3))
  refine ⟨none, ?_⟩
  show endDef false (denS Cl gc false Wd B [some (.imm (.list (ns.map .int))), none, none, none, none, none, none, none, none, none, none, none, none, none, none, none, none, none, none, none, none, none, none, none]) = _
  rw [fin]
  rfl
end Lw

open PySem PySem.W PySem.Calls PyProof.Rows
theorem PySem.Challenge.cw_rootsinlayers_k17_whole_units_and_fracti_holds : PySem.Challenge.rw_rootsinlayers_k17_whole_units_and_fracti.Holds := by
  w_on; o_law
  refine HandSHeadRun.head_any (r := OpenLaw.row PySem.Challenge.rw_rootsinlayers_k17_whole_units_and_fracti) (q := view (OpenLaw.row PySem.Challenge.rw_rootsinlayers_k17_whole_units_and_fracti).prog [22]) (H := Lw.hk) (ob := Lw.ob) (M := 4000) (loose := Lw.loose) (d := HandSHeadRun.topDef (OpenLaw.row PySem.Challenge.rw_rootsinlayers_k17_whole_units_and_fracti).prog 22) (kwd := []) Lw.ob_eq
    (by kernel_rfl) (fun s => by kernel_rfl) Lw.run (by kernel_rfl) (by kernel_rfl) (by kernel_rfl) (by rfl) (by first | assumption | decide +kernel) (by decide +kernel) ⟨rfl, rfl, rfl, rfl, rfl, by decide +kernel⟩ ?hw ?hc
  case hw => w_witness2
  case hc =>
    refine L2.walk_ofE (l := PySem.Challenge.rw_rootsinlayers_k17_whole_units_and_fracti) (n := 63) (k := 30) (x := "script") (CX := L2.CX0) rfl (by decide) (by kernel_rfl) ⟨rfl, by decide, by decide⟩ ?F (fun _ _ _ _ z => z)
    intro w mg fa h Y G hmg0
    obtain ⟨K, KX, c⟩ := Y
    have hmg : mg ("law" : PySem.Str) = some (.ref fa) := by
      have e : (HandSHeadRun.topDef (OpenLaw.row PySem.Challenge.rw_rootsinlayers_k17_whole_units_and_fracti).prog 22).name = ("law" : PySem.Str) := by kernel_rfl
      rw [← e]
      exact hmg0
    obtain ⟨fs, md⟩ := Lw.facts KX G c
    obtain ⟨a, fd, FD, hm⟩ := fs.f_13
    cases hm.symm.trans hmg
    exact ⟨K, fd, fun vs H Q _ => Fw.FnS K (Lw.caL K) 1 (Fw.calls Lw.gc Lw.Wd Lw.P 30 Lw.nLaw) false vs H Q fun _ _ _ => False, KX, fun s v => L2.FunD.bindsA (ps := ["script"]) FD (fun _ _ _ _ _ _ us hl => match us, hl with | [_], _ => rfl) s [v] rfl, Fw.law_sp Lw.plain, fun base _ _ => Lw.law_ok FD fs md⟩
