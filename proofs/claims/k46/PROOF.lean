import PyProof.Rows.All
import HandS.ForMost
import HandS.Deep
import KE.DataEq
import HandS.TupAny
import HandS.Conv
import HandS.Style
import HandS.TupMul
import HandS.List
import HandS.TupLe
import HandS.IsInst
import HandS.SortInts
import HandS.SortRule
import HandS.Flow
import PyProof.TwoTypesSub
import PyProof.Rows.RuleB_bool
import KE.KDictSum
import KE.KDictCopyH
import HandS.SetFor
import HandS.DictTup
import KE.GoesEnum
import KE.GoesMore
import HandS.Iter
import HandS.Walk
import HandS.Defaults
import HandS.HeadEnd
import PyProof.ReprRoads
import PyProof.CallFns
import PyProof.CallStr
import HandS.Exc
import HandS.HeadHook2
import HandS.Head2
import PyProof.StrLawsRepr
import PyProof.FitsInt
import PyProof.ReprReads
import Wide.All
import OpenK.AllK
import Wide.FinOn
import KE.KStateDown
import Lean
import HandS.Head0
import HandS.Head1
import HandS.HeadHook1
import PySem.Challenge.RW_fewfilled_k46_colours_of_any_hand
set_option linter.all false
/-! M0: plain data, the small language, what it means. -/
namespace Mini
open PySem L2

/-- plain data; m: a thing of one owner, that may be changed; tuples and what has m = false never change -/
inductive D where
  | non
  | bl (b : Bool)
  | int (i : Int)
  | str (s : Str)
  | tup (xs : List D)
  /-- a tuple of which no more is known than its items (a dict's key, a pair of enumerate) -/
  | raw (xs : List D)
  | lst (m : Bool) (xs : List D)
  | dK (m : Bool) (ks : List Key) (vs : List D)
  | dT (m : Bool) (ks : List (List Key)) (vs : List D)
  /-- the script, as it is handed in -/
  | scr (ns : List Int)
instance : Inhabited D := ⟨.non⟩

mutual
/-- nothing in it is owned -/
def D.pure : D → Bool
  | .non => true
  | .bl _ => true
  | .int _ => true
  | .str _ => true
  | .tup _ => true
  | .raw _ => true
  | .lst m _ => !m
  | .dK m _ _ => !m
  | .dT m _ _ => !m
  | .scr _ => true
end
def D.pures (xs : List D) : Bool := xs.all D.pure
mutual
def D.frz : D → D
  | .non => .non
  | .bl b => .bl b
  | .int i => .int i
  | .str s => .str s
  | .tup xs => .tup xs
  | .raw xs => .raw xs
  | .lst m xs => .lst false (if m then D.frzs xs else xs)
  | .dK m ks vs => .dK false ks (if m then D.frzs vs else vs)
  | .dT m ks vs => .dT false ks (if m then D.frzs vs else vs)
  | .scr ns => .scr ns
def D.frzs : List D → List D
  | [] => []
  | x :: xs => D.frz x :: D.frzs xs
end
/-- no thing in it that could be changed by another name -/
def D.flat : D → Bool
  | .non => true
  | .bl _ => true
  | .int _ => true
  | .str _ => true
  | _ => false

def keyPy : Key → PyData
  | .inl i => .int i
  | .inr s => .str s
/-- what neither compares nor shows -/
def badPy : PyData := .list [.dict [], .int (2 ^ 2000)]
mutual
def D.py : D → PyData
  | .non => .none
  | .bl b => .bool b
  | .int i => .int i
  | .str s => .str s
  | .tup xs => .tuple (D.pys xs)
  | .raw xs => .tuple (D.pys xs)
  | .lst _ xs => .list (D.pys xs)
  | .dK _ ks vs => .dict ((ks.map keyPy).zip (D.pys vs))
  | .dT _ ks vs => .dict ((ks.map fun k => .tuple (k.map keyPy)).zip (D.pys vs))
  | .scr _ => badPy
def D.pys : List D → List PyData
  | [] => []
  | x :: xs => D.py x :: D.pys xs
end

/-- an error: its class's name, its own fields -/
structure Ex where
  cls : Str
  flds : List (Str × D)

abbrev Env := List (Option D)
/-- a value and whether it is but looked at (a thing that a name owns) -/
structure Vt where
  d : D
  t : Bool

inductive Rx (α : Type) where
  | ok (a : α) (e : Env)
  | exc (x : Ex) (e : Env)
  | stuck

def Rx.bind {α β : Type} (r : Rx α) (k : α → Env → Rx β) : Rx β := match r with
  | .ok a e => k a e
  | .exc x e => .exc x e
  | .stuck => .stuck

/-- what a call gives: its value and what stands in the slots that it may change -/
inductive Cr where
  | ok (d : D) (outs : List D)
  | exc (x : Ex) (outs : List D)
  | stuck
abbrev Phi := Nat → List D → Cr
/-- the items that are walked, and whether they are but looked at -/
structure LvT where
  d : List D
  t : Bool

/-- data that can be compared: no dict in it, not too deep -/
def shp (d : PyData) : Bool := d.plain && decide (d.depth ≤ 64)
theorem shp_plain {d : PyData} (h : shp d = true) : d.plain = true := (Bool.and_eq_true_iff.mp h).1
theorem shp_room {A : Around} {da db : PyData} (h : shp da = true) (hu : A.units + 64 < cLine) : A.units + min da.depth db.depth < cLine := by
  have h1 : da.depth ≤ 64 := of_decide_eq_true (Bool.and_eq_true_iff.mp h).2
  have h2 : min da.depth db.depth ≤ da.depth := Nat.min_le_left _ _
  omega
theorem shp_in {A : Around} {xs : List PyData} {d : PyData} (hd : shp d = true) (hu : A.units + 65 < cLine) : A.units + 1 + min (PyData.depthAll xs) d.depth < cLine := by
  have h1 : d.depth ≤ 64 := of_decide_eq_true (Bool.and_eq_true_iff.mp hd).2
  have h2 : min (PyData.depthAll xs) d.depth ≤ d.depth := Nat.min_le_right _ _
  omega
/-! ### operations -/
def keyOf : D → Option Key
  | .int i => some (.inl i)
  | .str s => some (.inr s)
  | _ => none
def keysOf : List D → Option (List Key)
  | [] => some []
  | x :: xs => (keyOf x).bind fun k => (keysOf xs).map fun ks => k :: ks
def keyTOf : D → Option (List Key)
  | .raw xs => keysOf xs
  | _ => none
def lookK {κ : Type} [DecidableEq κ] : List κ → List D → κ → Option D
  | k :: ks, v :: vs, j => if k = j then some v else lookK ks vs j
  | _, _, _ => none
def hasK {κ : Type} [DecidableEq κ] (ks : List κ) (k : κ) : Bool := decide (k ∈ ks)
/-- the values behind d[k] = v, where k is there -/
def setK {κ : Type} [DecidableEq κ] : List κ → List D → κ → D → List D
  | k :: ks, v :: vs, j, y => if k = j then y :: vs else v :: setK ks vs j y
  | _, vs, _, _ => vs
def dropKs {κ : Type} [DecidableEq κ] : List κ → List D → κ → List κ × List D
  | k :: ks, v :: vs, j => if k = j then (ks, vs) else ((k :: (dropKs ks vs j).1), (v :: (dropKs ks vs j).2))
  | ks, vs, _ => (ks, vs)

def eqD (d e : D) : Option Bool :=
  if shp d.py && shp e.py then some (PyData.eqv d.py e.py) else
    match d, e with
    | .lst _ xs, .lst _ [] => some xs.isEmpty
    | .tup xs, .tup [] => some xs.isEmpty
    | _, _ => none

def inD (d : D) (xs : List D) : Option Bool :=
  if shp d.py && shp (.list (D.pys xs)) then some (xs.any fun y => PyData.eqv y.py d.py) else none

def intsOf : List D → Option (List Int)
  | [] => some []
  | .int i :: xs => (intsOf xs).map fun ns => i :: ns
  | _ :: _ => none
def boolsOf : List D → Option (List Bool)
  | [] => some []
  | .bl b :: xs => (boolsOf xs).map fun ns => b :: ns
  | _ :: _ => none
def strsOf : List D → Option (List Str)
  | [] => some []
  | .str b :: xs => (strsOf xs).map fun ns => b :: ns
  | _ :: _ => none
/-- the items of a tuple -/
def tupItems : D → Option (List D)
  | .tup xs => some xs
  | .raw xs => some xs
  | _ => none
def rowsRawOf : List D → Option (List (List Int))
  | [] => some []
  | .raw r :: xs => (intsOf r).bind fun r => (rowsRawOf xs).map fun ns => r :: ns
  | _ :: _ => none
/-- tuples of whole numbers -/
def rowsOf : List D → Option (List (List Int))
  | [] => some []
  | .tup r :: xs => (intsOf r).bind fun r => (rowsOf xs).map fun ns => r :: ns
  | _ :: _ => none

def insI (a : Int) : List Int → List Int
  | [] => [a]
  | b :: bs => if a ≤ b then a :: b :: bs else b :: insI a bs
def sortI : List Int → List Int
  | [] => []
  | a :: as => insI a (sortI as)
def insR (a : List Int) : List (List Int) → List (List Int)
  | [] => [a]
  | b :: bs => if HT.lexLt b a then b :: insR a bs else a :: b :: bs
def sortR : List (List Int) → List (List Int)
  | [] => []
  | a :: as => insR a (sortR as)
def rowD (r : List Int) : D := .tup (r.map D.int)
def rowRaw (r : List Int) : D := .raw (r.map D.int)
def keyInt : Key → Option Int
  | .inl i => some i
  | .inr _ => none
def keysInt : List Key → Option (List Int)
  | [] => some []
  | k :: ks => (keyInt k).bind fun i => (keysInt ks).map fun is => i :: is
def keysRows : List (List Key) → Option (List (List Int))
  | [] => some []
  | k :: ks => (keysInt k).bind fun i => (keysRows ks).map fun is => i :: is

/-- the items that a list, a tuple holds -/
def seqOf : D → Option (List D)
  | .tup xs => some xs
  | .lst _ xs => some xs
  | _ => none
def keyD : Key → D
  | .inl i => .int i
  | .inr s => .str s
def itemsOf : D → Option (List D)
  | .tup xs => some xs
  | .lst _ xs => some xs
  | _ => none

def ixD (d i : D) : Option D := match d, i with
  | .tup xs, .int i => atI xs i
  | .lst _ xs, .int i => atI xs i
  | .dK _ ks vs, k => (keyOf k).bind fun k => lookK ks vs k
  | .dT _ ks vs, k => (keyTOf k).bind fun k => lookK ks vs k
  | _, _ => none

def cutD {α : Type} (xs : List α) (lo hi : Option Int) : List α := (xs.drop (HT.sIx xs.length 0 lo)).take (HT.sIx xs.length xs.length hi - HT.sIx xs.length 0 lo)
def slcD (d : D) (lo hi : Option Int) : Option D := match d with
  | .tup xs => some (.tup (cutD xs lo hi))
  | .lst _ xs => if D.pures xs then some (.lst true (cutD xs lo hi)) else none
  | .scr ns => some (.lst true ((cutD ns lo hi).map D.int))
  | _ => none
def revD (d : D) : Option D := match d with
  | .tup xs => some (.tup xs.reverse)
  | .lst _ xs => if D.pures xs then some (.lst true xs.reverse) else none
  | _ => none

def mulOk (i j : Int) : Bool := decide ((-(2 ^ 64) < i ∧ i < 2 ^ 64) ∨ (-(2 ^ 64) < j ∧ j < 2 ^ 64))
def b2i (b : Bool) : Int := if b then 1 else 0
def binD (op : Operator) (d e : D) : Option D := match op, d, e with
  | .Add, .bl b, .int j => some (.int (b2i b + j))
  | .Sub, .bl b, .int j => some (.int (b2i b - j))
  | .Add, .int i, .int j => some (.int (i + j))
  | .Sub, .int i, .int j => some (.int (i - j))
  | .Mult, .int i, .int j => if mulOk i j then some (.int (i * j)) else none
  | .FloorDiv, .int i, .int j => if 0 < j ∧ j < 1073741824 then some (.int (i / j)) else none
  | .Mod, .int i, .int j => if 0 < j then some (.int (i % j)) else none
  | .Pow, .int i, .int j => if 0 ≤ j ∧ j ≤ 1000000 ∧ i.natAbs < 2 ^ 64 then some (.int (i ^ j.toNat)) else none
  | .Add, .lst _ xs, .lst _ ys => if xs.length + ys.length ≤ sizeLine ∧ D.pures xs ∧ D.pures ys then some (.lst true (xs ++ ys)) else none
  | .Add, .tup xs, .tup ys => if xs.length + ys.length ≤ sizeLine then some (.tup (xs ++ ys)) else none
  | .Mult, .lst _ xs, .int k => if -(2 ^ 63) ≤ k ∧ k < 2 ^ 63 ∧ xs.length * k.toNat ≤ sizeLine ∧ D.pures xs then some (.lst true (List.replicate k.toNat xs).flatten) else none
  | .Mult, .tup xs, .int k => if !xs.isEmpty ∧ 1 ≤ k ∧ k ≤ 1000 ∧ xs.length ≤ 1000 then some (.tup (List.replicate k.toNat xs).flatten) else none
  | _, _, _ => none

def isNon : D → Bool
  | .non => true
  | _ => false
def cmpD (op : CmpOp) (d e : D) : Option Bool := match op, d, e with
  | .Lt, .int i, .int j => some (decide (i < j))
  | .LtE, .int i, .int j => some (decide (i ≤ j))
  | .Gt, .int i, .int j => some (decide (j < i))
  | .GtE, .int i, .int j => some (decide (j ≤ i))
  | .Eq, d, e => eqD d e
  | .NotEq, d, e => (eqD d e).map not
  | .Is, .bl b, .bl c => some (b == c)
  | .Is, d, .non => some (isNon d)
  | .IsNot, .bl b, .bl c => some (b != c)
  | .IsNot, d, .non => some (!isNon d)
  | .In, d, .lst _ xs => inD d xs
  | .In, d, .tup xs => inD d xs
  | .In, k, .dK _ ks _ => (keyOf k).map fun k => hasK ks k
  | .In, k, .dT _ ks _ => (keyTOf k).map fun k => hasK ks k
  | .NotIn, d, .lst _ xs => (inD d xs).map not
  | .NotIn, d, .tup xs => (inD d xs).map not
  | .NotIn, k, .dK _ ks _ => (keyOf k).map fun k => !hasK ks k
  | .NotIn, k, .dT _ ks _ => (keyTOf k).map fun k => !hasK ks k
  | _, _, _ => none

/-- the built-ins of one argument -/
inductive B1 where
  | len | sorted | tuple | rtuple | list | sum | all | any | max | min | int | str | repr | abs | dictT | lenset
  deriving DecidableEq
inductive B2 where
  | max | min
  deriving DecidableEq
inductive Ty where
  | int | bool | tuple | str
  deriving DecidableEq

def sortedD (d : D) : Option D :=
  match d with
  | .lst _ xs => sortedL xs
  | .tup xs => sortedL xs
  | .raw xs => sortedL xs
  | .dT _ ks _ => (keysRows ks).bind fun rs => if rs.all (fun r => !r.isEmpty) then some (.lst true ((sortR rs).map rowRaw)) else none
  | _ => none
where sortedL (xs : List D) : Option D :=
  match intsOf xs with
  | some ns => some (.lst true ((sortI ns).map D.int))
  | none => match rowsOf xs with
    | some rs => if rs.all (fun r => !r.isEmpty) then some (.lst true ((sortR rs).map rowD)) else none
    | none => (rowsRawOf xs).bind fun rs => if rs.all (fun r => !r.isEmpty) then some (.lst true ((sortR rs).map rowRaw)) else none

def pairsT : List D → Option (List (List Key × D))
  | [] => some []
  | .tup [k, v] :: xs => (keyTOf k).bind fun k => if v.pure then (pairsT xs).map fun r => (k, v) :: r else none
  | _ :: _ => none
def putT {κ : Type} [DecidableEq κ] (acc : List κ × List D) (p : κ × D) : List κ × List D :=
  if p.1 ∈ acc.1 then (acc.1, setK acc.1 acc.2 p.1 p.2) else (acc.1 ++ [p.1], acc.2 ++ [p.2])
def dedupI : List Int → List Int
  | [] => []
  | a :: as => if a ∈ as then dedupI as else a :: dedupI as

def strD : D → Str
  | .str s => s
  | d => d.py.shown
def b1D (b : B1) (d : D) : Option D := match b, d with
  | .len, .lst _ xs => some (.int xs.length)
  | .len, .tup xs => some (.int xs.length)
  | .len, .dK _ ks _ => some (.int ks.length)
  | .sorted, d => sortedD d
  | .tuple, .tup xs => some (.tup xs)
  | .tuple, .lst _ xs => if D.pures xs then some (.tup xs) else none
  | .rtuple, .lst _ xs => if D.pures xs then some (.raw xs) else none
  | .list, .tup xs => some (.lst true xs)
  | .list, .lst _ xs => if D.pures xs then some (.lst true xs) else none
  | .sum, .lst _ xs => (intsOf xs).map fun ns => .int ns.sum
  | .all, .lst _ xs => (boolsOf xs).map fun bs => .bl (bs.all id)
  | .any, .lst _ xs => (boolsOf xs).map fun bs => .bl (bs.any id)
  | .max, .lst _ xs => (intsOf xs).bind fun ns => (ns.max?).map D.int
  | .min, .lst _ xs => (intsOf xs).bind fun ns => (ns.min?).map D.int
  | .max, .tup xs => (intsOf xs).bind fun ns => (ns.max?).map D.int
  | .min, .tup xs => (intsOf xs).bind fun ns => (ns.min?).map D.int
  | .int, .int i => some (.int i)
  | .int, .bl b => some (.int (b2i b))
  | .abs, .int i => some (.int (if i < 0 then -i else i))
  | .str, d => if d.pure && d.py.showable && decide (d.py.depth ≤ 64) && decide (d.py.shown.length ≤ sizeLine) then
      some (.str (strD d)) else none
  | .repr, d => if d.pure && d.py.showable && decide (d.py.depth ≤ 64) && decide (d.py.shown.length ≤ sizeLine) then some (.str d.py.shown) else none
  | .lenset, .tup xs => (intsOf xs).bind fun ns => if ns.length ≤ 1000 then some (.int (dedupI ns).length) else none
  | .dictT, .lst _ xs => (pairsT xs).map fun ps => .dT true (ps.foldl putT ([], [])).1 (ps.foldl putT ([], [])).2
  | _, _ => none
def b2D (b : B2) (d e : D) : Option D := match b, d, e with
  | .max, .int i, .int j => some (.int (if j > i then j else i))
  | .min, .int i, .int j => some (.int (if j < i then j else i))
  | _, _, _ => none
def isiD (t : Ty) (d : D) : Bool := match t, d with
  | .int, .int _ => true
  | .int, .bl _ => true
  | .bool, .bl _ => true
  | .tuple, .tup _ => true
  | .tuple, .raw _ => true
  | .str, .str _ => true
  | _, _ => false
def cntD (d x : D) : Option D := match d, x with
  | .tup xs, .int i => (intsOf xs).map fun ns => .int (ns.count i : Nat)
  | .lst _ xs, .int i => (intsOf xs).map fun ns => .int (ns.count i : Nat)
  | _, _ => none

/-! ### a place within what a name owns -/
def putIx (d k c : D) : Option D := match d, k with
  | .lst true xs, .int i => (ixN xs.length i).map fun j => .lst true (xs.set j c)
  | .dK true ks vs, k => (keyOf k).bind fun k => if hasK ks k then some (.dK true ks (setK ks vs k c)) else none
  | .dT true ks vs, k => (keyTOf k).bind fun k => if hasK ks k then some (.dT true ks (setK ks vs k c)) else none
  | _, _ => none
def updAt {α : Type} (f : D → Option (α × D)) : List D → D → Option (α × D)
  | [], d => f d
  | k :: ks, d => (ixD d k).bind fun c => (updAt f ks c).bind fun (a, c') => (putIx d k c').map fun d' => (a, d')

def walkD : D → List D → Option D
  | d, [] => some d
  | d, k :: ks => (ixD d k).bind fun c => walkD c ks

/-- changes at a place: what the call tells, what then stands there -/
def fAppend (v : D) : D → Option (D × D)
  | .lst true xs => if xs.length < sizeLine then some (.non, .lst true (xs ++ [v])) else none
  | _ => none
def fExtend (v : D) : D → Option (D × D)
  | .lst true xs => match v with
    | .lst true ys => if xs.length + ys.length ≤ sizeLine then some (.non, .lst true (xs ++ ys)) else none
    | _ => none
  | _ => none
def fPop : D → Option (D × D)
  | .lst true xs => (xs[xs.length - 1]?).map fun y => (y, .lst true xs.dropLast)
  | _ => none
def fPopAt (v : D) : D → Option (D × D)
  | .lst true xs => match v with
    | .int i => (ixN xs.length i).bind fun j => (xs[j]?).map fun y => (y, .lst true (xs.eraseIdx j))
    | _ => none
  | _ => none
def fRemove (v : D) : D → Option (D × D)
  | .lst true xs => match v, intsOf xs with
    | .int i, some ns => if i ∈ ns then some (.non, .lst true ((ns.erase i).map D.int)) else none
    | _, _ => none
  | _ => none
def fSetIx (k v : D) : D → Option (D × D)
  | .lst true xs => match k with
    | .int i => (ixN xs.length i).map fun j => (.non, .lst true (xs.set j v))
    | _ => none
  | .dK true ks vs => (keyOf k).bind fun k => if ks.length < sizeLine then
      some (.non, .dK true (putT (ks, vs) (k, v)).1 (putT (ks, vs) (k, v)).2) else none
  | .dT true ks vs => (keyTOf k).bind fun k => if ks.length < sizeLine then
      some (.non, .dT true (putT (ks, vs) (k, v)).1 (putT (ks, vs) (k, v)).2) else none
  | _ => none
def fDPop (k : D) : D → Option (D × D)
  | .dT true ks vs => (keyTOf k).bind fun k => match lookK ks vs k with
    | some y => if y.pure then some (y, .dT true (dropKs ks vs k).1 (dropKs ks vs k).2) else none
    | none => some (.non, .dT true ks vs)
  | _ => none

/-- a dict's keys, the dict frozen from then on -/
def fLockK : D → Option (List D × D)
  | .dK true ks vs => if D.pures vs then some (ks.map keyD, .dK false ks vs) else none
  | _ => none

/-! ### the language -/
inductive Mt where
  | append | extend | pop | popAt | remove | dpop
  deriving DecidableEq
def mtF : Mt → List D → Option (D → Option (D × D))
  | .append, [v] => some (fAppend v)
  | .extend, [v] => some (fExtend v)
  | .pop, [] => some fPop
  | .popAt, [v] => some (fPopAt v)
  | .remove, [v] => some (fRemove v)
  | .dpop, [k, .non] => some (fDPop k)
  | _, _ => none
def mtK : Mt → D → Bool
  | .dpop, .dT true _ _ => true
  | .dpop, _ => false
  | _, .lst true _ => true
  | _, _ => false
mutual
inductive CE where
  | var (i : Nat)
  | mv (i : Nat)
  | frz (i : Nat)
  | cst (d : D)
  | glb (x : Str) (d : D)
  | bin (op : Operator) (a b : CE)
  | neg (a : CE)
  | not (a : CE)
  | cmp (op : CmpOp) (a b : CE)
  | chn (op op2 : CmpOp) (a b c : CE)
  | bop (and : Bool) (es : CEs)
  | ifx (c a b : CE)
  | tup (es : CEs)
  | rtup (es : CEs)
  | lst (own : Bool) (es : CEs)
  | dnew (tk : Bool)
  | done (k v : CE)
  | ix (a b : CE)
  | slc (a : CE) (lo hi : CO)
  | rev (a : CE)
  | call (f : Nat) (args : CA)
  | b1 (b : B1) (a : CE)
  | rng (tp : Bool) (a : CE)
  | b2 (b : B2) (a c : CE)
  | isi (a : CE) (t : Ty)
  | cnt (a b : CE)
  | mth (p : CP) (m : Mt) (es : CEs)
  | lc (own : Bool) (elt : CE) (tg : List Nat) (it : CI) (cond : CEs)
inductive CEs where
  | nil
  | cons (e : CE) (es : CEs)
inductive CO where
  | no
  | yes (e : CE)
inductive CA where
  | nil
  | val (e : CE) (as : CA)
  | io (i : Nat) (as : CA)
  | bor (i : Nat) (as : CA)
inductive CP where
  | var (i : Nat)
  | ix (p : CP) (e : CE)
inductive CI where
  | seq (e : CE)
  | rng1 (e : CE)
  | rng2 (a b : CE)
  | enum (e : CE)
  | zip (a b : CE)
  | keys (e : CE)
  | keysP (p : CP)
end

def CEs.len : CEs → Nat
  | .nil => 0
  | .cons _ es => es.len + 1
mutual
/-- it changes nothing that stands -/
def CE.quiet : CE → Bool
  | .var _ => true
  | .mv _ => false
  | .frz _ => false
  | .cst _ => true
  | .glb _ _ => true
  | .bin _ a b => a.quiet && b.quiet
  | .neg a => a.quiet
  | .not a => a.quiet
  | .cmp _ a b => a.quiet && b.quiet
  | .chn _ _ a b c => a.quiet && b.quiet && c.quiet
  | .bop _ es => es.quiet
  | .ifx c a b => c.quiet && a.quiet && b.quiet
  | .tup es => es.quiet
  | .rtup es => es.quiet
  | .lst _ es => es.quiet
  | .dnew _ => true
  | .done k v => k.quiet && v.quiet
  | .ix a b => a.quiet && b.quiet
  | .slc a lo hi => a.quiet && lo.quiet && hi.quiet
  | .rev a => a.quiet
  | .call _ as => as.quiet
  | .b1 _ a => a.quiet
  | .rng _ a => a.quiet
  | .b2 _ a c => a.quiet && c.quiet
  | .isi a _ => a.quiet
  | .cnt a b => a.quiet && b.quiet
  | .mth _ _ _ => false
  | .lc _ elt _ it cond => elt.quiet && it.quiet && cond.quiet
def CEs.quiet : CEs → Bool
  | .nil => true
  | .cons e es => e.quiet && es.quiet
def CO.quiet : CO → Bool
  | .no => true
  | .yes e => e.quiet
def CA.quiet : CA → Bool
  | .nil => true
  | .val e as => e.quiet && as.quiet
  | .io _ _ => false
  | .bor _ as => as.quiet
def CP.quiet : CP → Bool
  | .var _ => true
  | .ix p e => p.quiet && e.quiet
def CI.quiet : CI → Bool
  | .seq e => e.quiet
  | .rng1 e => e.quiet
  | .rng2 a b => a.quiet && b.quiet
  | .enum e => e.quiet
  | .zip a b => a.quiet && b.quiet
  | .keys e => e.quiet
  | .keysP _ => false
end

def ofO {α : Type} (o : Option α) (ρ : Env) : Rx α := match o with
  | some a => .ok a ρ
  | none => .stuck
def vOf (o : Option D) (ρ : Env) : Rx Vt := match o with
  | some d => .ok ⟨d, false⟩ ρ
  | none => .stuck
def getS (ρ : Env) (i : Nat) : Option D := (ρ[i]?).join
def CP.root : CP → Nat
  | .var i => i
  | .ix p _ => p.root
def CP.isVar : CP → Bool
  | .var _ => true
  | .ix _ _ => false

/-- list comprehensions: the turns -/
def lcL (bind : D → Env → Option Env) (cond : Env → Rx Bool) (elt : Env → Rx D) (ok : Env → Bool) (wipe : Env → Env) : List D → List D → Env → Rx (List D)
  | [], acc, ρ => .ok acc ρ
  | x :: xs, acc, ρ => match bind x ρ with
    | none => .stuck
    | some ρ1 => match cond ρ1 with
      | .ok true ρ2 => (match elt ρ2 with
        | .ok y ρ3 => if ok ρ3 then lcL bind cond elt ok wipe xs (acc ++ [y]) (wipe ρ3) else .stuck
        | _ => .stuck)
      | .ok false ρ2 => if ok ρ2 then lcL bind cond elt ok wipe xs acc (wipe ρ2) else .stuck
      | _ => .stuck
/-- a target: one name, or several for a tuple -/
def bindT : List Nat → D → Env → Option Env
  | [i], x, ρ => if i < ρ.length then some (ρ.set i (some x)) else none
  | is, x, ρ => match tupItems x with
    | some xs => if is.length = xs.length then go is xs ρ else none
    | none => none
where go : List Nat → List D → Env → Option Env
  | [], _, ρ => some ρ
  | i :: is, x :: xs, ρ => if i < ρ.length then go is xs (ρ.set i (some x)) else none
  | _ :: _, [], _ => none
def wipeS (is : List Nat) (ρ : Env) : Env := is.foldl (fun ρ i => ρ.set i none) ρ
def keepP : Option D → Option D
  | some d => if d.pure then some d else none
  | none => none
def okS (is : List Nat) (ρ : Env) : Bool := is.all fun i => match getS ρ i with
  | some d => d.pure
  | none => true
def backS (is : List Nat) (old ρ : Env) : Env := is.foldl (fun ρ i => ρ.set i (keepP (getS old i))) ρ

def rangeD (lo : Int) (n : Nat) : List D := (List.range n).map fun (i : Nat) => D.int (lo + i)
def zipIdxD (xs : List D) : List D := (xs.zipIdx).map fun p => D.raw [.int p.2, p.1]

/-- the slots of a call's arguments that it may change, in turn -/
def CA.ios : CA → List Nat
  | .nil => []
  | .val _ as => as.ios
  | .io i as => i :: as.ios
  | .bor _ as => as.ios
def CA.iopos : CA → Nat → List Nat
  | .nil, _ => []
  | .val _ as, n => as.iopos (n + 1)
  | .io _ as, n => n :: as.iopos (n + 1)
  | .bor _ as, n => as.iopos (n + 1)
def CA.hasBor : CA → Bool
  | .nil => false
  | .val _ as => as.hasBor
  | .io _ as => as.hasBor
  | .bor _ _ => true
/-- the arguments' values: those written, then those in slots as they stand at the call -/
def CA.fill : CA → List D → Env → Option (List D)
  | .nil, [], _ => some []
  | .val _ as, v :: vs, ρ => (as.fill vs ρ).map fun r => v :: r
  | .io i as, vs, ρ => (getS ρ i).bind fun d => (as.fill vs ρ).map fun r => d :: r
  | .bor i as, vs, ρ => (getS ρ i).bind fun d => (as.fill vs ρ).map fun r => d.frz :: r
  | _, _, _ => none
def setAll : List Nat → List D → Env → Env
  | i :: is, d :: ds, ρ => setAll is ds (ρ.set i (some d))
  | _, _, ρ => ρ

section
variable (Φ : Phi)
mutual
def den : CE → Env → Rx Vt
  | .var i, ρ => match getS ρ i with
    | some d => .ok ⟨d, !d.pure⟩ ρ
    | none => .stuck
  | .mv i, ρ => match getS ρ i with
    | some d => .ok ⟨d, false⟩ (ρ.set i none)
    | none => .stuck
  | .frz i, ρ => match getS ρ i with
    | some d => .ok ⟨d.frz, false⟩ (ρ.set i (some d.frz))
    | none => .stuck
  | .cst d, ρ => .ok ⟨d, false⟩ ρ
  | .glb _ d, ρ => .ok ⟨d, false⟩ ρ
  | .bin op a b, ρ => (den a ρ).bind fun x ρ => (den b ρ).bind fun y ρ => if x.t && !b.quiet then .stuck else vOf (binD op x.d y.d) ρ
  | .neg a, ρ => (den a ρ).bind fun x ρ => match x.d with
    | .int i => .ok ⟨.int (-i), false⟩ ρ
    | _ => .stuck
  | .not a, ρ => (den a ρ).bind fun x ρ => match x.d with
    | .bl b => .ok ⟨.bl (!b), false⟩ ρ
    | _ => .stuck
  | .cmp op a b, ρ => (den a ρ).bind fun x ρ => (den b ρ).bind fun y ρ => if x.t && !b.quiet then .stuck else vOf ((cmpD op x.d y.d).map D.bl) ρ
  | .chn op op2 a b c, ρ => (den a ρ).bind fun x ρ => (den b ρ).bind fun y ρ => match x.d, y.d with
    | .int i, .int j => (match cmpD op (.int i) (.int j) with
      | some true => (den c ρ).bind fun z ρ => (match z.d with
        | .int k => vOf ((cmpD op2 (.int j) (.int k)).map D.bl) ρ
        | _ => .stuck)
      | some false => .ok ⟨.bl false, false⟩ ρ
      | none => .stuck)
    | _, _ => .stuck
  | .bop and es, ρ => denB and es ρ
  | .ifx c a b, ρ => (den c ρ).bind fun x ρ => match x.d with
    | .bl true => den a ρ
    | .bl false => den b ρ
    | _ => .stuck
  | .tup es, ρ => (denEs es ρ).bind fun xs ρ => .ok ⟨.tup (D.frzs xs), false⟩ ρ
  | .rtup es, ρ => (denEs es ρ).bind fun xs ρ => .ok ⟨.raw (D.frzs xs), false⟩ ρ
  | .lst own es, ρ => (denEs es ρ).bind fun xs ρ => .ok ⟨.lst true (if own then xs else D.frzs xs), false⟩ ρ
  | .dnew tk, ρ => .ok ⟨if tk then .dT true [] [] else .dK true [] [], false⟩ ρ
  | .done k v, ρ => (den k ρ).bind fun x ρ => (den v ρ).bind fun y ρ => if y.t then .stuck else match keyOf x.d with
    | some k => .ok ⟨.dK true [k] [y.d.frz], false⟩ ρ
    | none => .stuck
  | .ix a b, ρ => (den a ρ).bind fun x ρ => (den b ρ).bind fun y ρ => if x.t && !b.quiet then .stuck else match ixD x.d y.d with
    | some d => if d.pure then .ok ⟨d, false⟩ ρ else if x.t then .ok ⟨d, true⟩ ρ else .stuck
    | none => .stuck
  | .slc a lo hi, ρ => (den a ρ).bind fun x ρ => (denO lo ρ).bind fun l ρ => (denO hi ρ).bind fun h ρ =>
      if x.t && !(lo.quiet && hi.quiet) then .stuck else vOf (slcD x.d l h) ρ
  | .rev a, ρ => (den a ρ).bind fun x ρ => vOf (revD x.d) ρ
  | .call f as, ρ => (denA as ρ).bind fun vs ρ => match as.fill vs ρ with
    | none => .stuck
    | some args => (match Φ f args with
      | .ok d outs => if as.hasBor && !(d.flat && as.ios.isEmpty) then .stuck else if outs.length = as.ios.length then .ok ⟨d, false⟩ (setAll as.ios outs ρ) else .stuck
      | .exc x outs => if as.hasBor then .stuck else if outs.length = as.ios.length then .exc x (setAll as.ios outs ρ) else .stuck
      | .stuck => .stuck)
  | .rng tp a, ρ => (den a ρ).bind fun x ρ => match x.d with
    | .int n => if -1000000 ≤ n ∧ n ≤ 1000000 then .ok ⟨if tp then .tup (rangeD 0 n.toNat) else .lst true (rangeD 0 n.toNat), false⟩ ρ else .stuck
    | _ => .stuck
  | .b1 b a, ρ => (den a ρ).bind fun x ρ => vOf (b1D b x.d) ρ
  | .b2 b a c, ρ => (den a ρ).bind fun x ρ => (den c ρ).bind fun y ρ => vOf (b2D b x.d y.d) ρ
  | .isi a t, ρ => (den a ρ).bind fun x ρ => .ok ⟨.bl (isiD t x.d), false⟩ ρ
  | .cnt a b, ρ => (den a ρ).bind fun x ρ => (den b ρ).bind fun y ρ => if x.t && !b.quiet then .stuck else vOf (cntD x.d y.d) ρ
  | .mth p m es, ρ => (denP p ρ).bind fun ks ρ => if !((getS ρ p.root).bind fun d => walkD d ks).any (mtK m) then .stuck else (denEs es ρ).bind fun vs ρ => if !(p.isVar || es.quiet) then .stuck else
      match mtF m vs with
      | none => .stuck
      | some f => (match (getS ρ p.root).bind fun d => updAt f ks d with
        | some (y, d') => .ok ⟨y, false⟩ (ρ.set p.root (some d'))
        | none => .stuck)
  | .lc own elt tg it cond, ρ => (denI it ρ).bind fun xs ρ => if xs.t && !(elt.quiet && cond.quiet) then .stuck else if xs.d.length < sizeLine ∧ okS tg ρ then
      (match lcL (bindT tg) (denC cond) (fun ρ => (den elt ρ).bind fun y ρ => if y.t then .stuck else .ok (if own then y.d else y.d.frz) ρ) (okS tg) (wipeS tg) xs.d [] (wipeS tg ρ) with
      | .ok ys ρ' => .ok ⟨.lst true ys, false⟩ (backS tg ρ ρ')
      | _ => .stuck) else .stuck
def denB (and : Bool) : CEs → Env → Rx Vt
  | .nil, _ => .stuck
  | .cons e .nil, ρ => den e ρ
  | .cons e (.cons e2 es), ρ => (den e ρ).bind fun x ρ => match x.d with
    | .bl b => if b = and then denB and (.cons e2 es) ρ else .ok ⟨.bl b, false⟩ ρ
    | _ => .stuck
def denEs : CEs → Env → Rx (List D)
  | .nil, ρ => .ok [] ρ
  | .cons e es, ρ => (den e ρ).bind fun x ρ => if x.t then .stuck else (denEs es ρ).bind fun xs ρ => .ok (x.d :: xs) ρ
/-- the tests of a comprehension: none, or one -/
def denC : CEs → Env → Rx Bool
  | .nil, ρ => .ok true ρ
  | .cons e .nil, ρ => (den e ρ).bind fun x ρ => match x.d with
    | .bl b => .ok b ρ
    | _ => .stuck
  | .cons _ (.cons _ _), _ => .stuck
def denO : CO → Env → Rx (Option Int)
  | .no, ρ => .ok none ρ
  | .yes e, ρ => (den e ρ).bind fun x ρ => match x.d with
    | .int i => .ok (some i) ρ
    | _ => .stuck
def denA : CA → Env → Rx (List D)
  | .nil, ρ => .ok [] ρ
  | .val e as, ρ => (den e ρ).bind fun x ρ => if x.t then .stuck else (denA as ρ).bind fun xs ρ => .ok (x.d.frz :: xs) ρ
  | .io i as, ρ => if (getS ρ i).isSome then denA as ρ else .stuck
  | .bor i as, ρ => if (getS ρ i).isSome then denA as ρ else .stuck
def denP : CP → Env → Rx (List D)
  | .var i, ρ => if (getS ρ i).isSome then .ok [] ρ else .stuck
  | .ix p e, ρ => if p.quiet && e.quiet then (denP p ρ).bind fun ks ρ => (den e ρ).bind fun x ρ =>
      if ((getS ρ p.root).bind fun d => walkD d (ks ++ [x.d])).isSome then .ok (ks ++ [x.d]) ρ else .stuck else .stuck
def denI : CI → Env → Rx LvT
  | .seq e, ρ => (den e ρ).bind fun x ρ => match itemsOf x.d with
    | some xs => if x.t then (if D.pures xs then .ok ⟨xs, true⟩ ρ else .stuck) else (match itemsOf x.d.frz with
      | some xs => .ok ⟨xs, false⟩ ρ
      | none => .stuck)
    | none => .stuck
  | .rng1 e, ρ => (den e ρ).bind fun x ρ => match x.d with
    | .int j => if -(2 ^ 62) ≤ j ∧ j < 2 ^ 62 then .ok ⟨rangeD 0 j.toNat, false⟩ ρ else .stuck
    | _ => .stuck
  | .rng2 a b, ρ => (den a ρ).bind fun x ρ => (den b ρ).bind fun y ρ => match x.d, y.d with
    | .int i, .int j => if -(2 ^ 62) ≤ i ∧ i < 2 ^ 62 ∧ -(2 ^ 62) ≤ j ∧ j < 2 ^ 62 then .ok ⟨rangeD i (j - i).toNat, false⟩ ρ else .stuck
    | _, _ => .stuck
  | .enum e, ρ => (den e ρ).bind fun x ρ => if x.t then .stuck else match itemsOf x.d.frz with
    | some xs => .ok ⟨zipIdxD xs, false⟩ ρ
    | none => .stuck
  | .zip _ _, _ => .stuck
  | .keys e, ρ => match e with
    | .frz i => (match getS ρ i with
      | some (.dT true ks vs) => if D.pures vs then .ok ⟨ks.map fun k => .raw (k.map keyD), false⟩ (ρ.set i (some (.dT false ks vs))) else .stuck
      | _ => .stuck)
    | _ => .stuck
  | .keysP p, ρ => (denP p ρ).bind fun ks ρ => match (getS ρ p.root).bind fun d => updAt fLockK ks d with
    | some (xs, d') => .ok ⟨xs, false⟩ (ρ.set p.root (some d'))
    | none => .stuck
end
end

/-! ### statements -/
inductive Fl where
  | next
  | ret (d : D)
  | brk
  | cont
inductive CS where
  | skip
  | seq (a b : CS)
  | asg (i : Nat) (own : Bool) (e : CE)
  | asgT (is : List Nat) (e : CE)
  | setp (own : Bool) (p : CP) (k e : CE)
  | ex (e : CE)
  | ret (e : CE)
  | retN
  | ifs (c : CE) (a b : CS)
  | for_ (tg : List Nat) (it : CI) (body : CS) (clr : List Nat)
  | whl (m : Env → Nat) (c : CE) (body : CS) (clr : List Nat)
  | brk
  | cont
  | bad

def forL (step : D → Env → Rx Fl) (wipe : Env → Env) : List D → Env → Rx Fl
  | [], ρ => .ok .next ρ
  | x :: xs, ρ => match step x ρ with
    | .ok .next ρ' => forL step wipe xs (wipe ρ')
    | .ok .cont ρ' => forL step wipe xs (wipe ρ')
    | .ok .brk ρ' => .ok .next (wipe ρ')
    | .ok (.ret d) ρ' => .ok (.ret d) ρ'
    | .exc x ρ' => .exc x ρ'
    | .stuck => .stuck
def whlL (test : Env → Rx Bool) (step : Env → Rx Fl) (wipe : Env → Env) : Nat → Env → Rx Fl
  | 0, _ => .stuck
  | n + 1, ρ => match test ρ with
    | .ok true ρ1 => (match step ρ1 with
      | .ok .next ρ' => whlL test step wipe n (wipe ρ')
      | .ok .cont ρ' => whlL test step wipe n (wipe ρ')
      | .ok .brk ρ' => .ok .next (wipe ρ')
      | .ok (.ret d) ρ' => .ok (.ret d) ρ'
      | .exc x ρ' => .exc x ρ'
      | .stuck => .stuck)
    | .ok false ρ1 => .ok .next ρ1
    | .exc x ρ' => .exc x ρ'
    | .stuck => .stuck
def boolOf (r : Rx Vt) : Rx Bool := r.bind fun x ρ => match x.d with
  | .bl b => .ok b ρ
  | _ => .stuck

section
variable (Φ : Phi)
def denS : CS → Env → Rx Fl
  | .skip, ρ => .ok .next ρ
  | .seq a b, ρ => match denS a ρ with
    | .ok .next ρ' => denS b ρ'
    | r => r
  | .asg i own e, ρ => (den Φ e ρ).bind fun x ρ => if x.t then .stuck else if i < ρ.length then .ok .next (ρ.set i (some (if own then x.d else x.d.frz))) else .stuck
  | .asgT is e, ρ => (den Φ e ρ).bind fun x ρ => if x.t then .stuck else match tupItems x.d with
    | some xs => (match bindT.go is xs ρ with
      | some ρ' => if is.length = xs.length then .ok .next ρ' else .stuck
      | none => .stuck)
    | none => .stuck
  | .setp own p k e, ρ => (den Φ e ρ).bind fun x ρ => if x.t then .stuck else if !(p.quiet && k.quiet) then .stuck else
      (denP Φ p ρ).bind fun ks ρ => (den Φ k ρ).bind fun y ρ => match (getS ρ p.root).bind fun d => updAt (fSetIx y.d (if own then x.d else x.d.frz)) ks d with
        | some (_, d') => .ok .next (ρ.set p.root (some d'))
        | none => .stuck
  | .ex e, ρ => (den Φ e ρ).bind fun _ ρ => .ok .next ρ
  | .ret e, ρ => (den Φ e ρ).bind fun x ρ => if x.t then .stuck else .ok (.ret x.d) ρ
  | .retN, ρ => .ok (.ret .non) ρ
  | .ifs c a b, ρ => (boolOf (den Φ c ρ)).bind fun k ρ => if k then denS a ρ else denS b ρ
  | .for_ tg it body clr, ρ => (denI Φ it ρ).bind fun xs ρ => if xs.t then .stuck else
      forL (fun x ρ => match bindT tg x ρ with
        | some ρ1 => denS body ρ1
        | none => .stuck) (wipeS (tg ++ clr)) xs.d (wipeS (tg ++ clr) ρ)
  | .whl m c body clr, ρ => whlL (fun ρ => boolOf (den Φ c ρ)) (fun ρ => denS body ρ) (wipeS clr) (m ρ) (wipeS clr ρ)
  | .brk, ρ => .ok .brk ρ
  | .cont, ρ => .ok .cont ρ
  | .bad, _ => .stuck
end

/-! ### defs -/
structure CF where
  name : Str
  params : Nat
  slots : List Str
  io : List Nat
  own : Bool
  body : CS
def outsOf (io : List Nat) (ρ : Env) : Option (List D) := match io with
  | [] => some []
  | i :: is => (getS ρ i).bind fun d => (outsOf is ρ).map fun r => d :: r
def CF.start (c : CF) (args : List D) : Env := args.map some ++ List.replicate (c.slots.length - c.params) none
def runF (Φ : Phi) (c : CF) (args : List D) : Cr :=
  if args.length = c.params then
    match denS Φ c.body (c.start args) with
    | .ok (.ret d) ρ => (match outsOf c.io ρ with
      | some outs => .ok (if c.own then d else d.frz) outs
      | none => .stuck)
    | .ok .next ρ => (match outsOf c.io ρ with
      | some outs => .ok .non outs
      | none => .stuck)
    | .exc x ρ => (match outsOf c.io ρ with
      | some outs => .exc x outs
      | none => .stuck)
    | _ => .stuck
  else .stuck
def phi (prog : List CF) : Nat → Phi
  | 0, _, _ => .stuck
  | n + 1, f, args => match prog[f]? with
    | some c => runF (phi prog n) c args
    | none => .stuck
end Mini
set_option linter.all false
set_option maxRecDepth 10000
/-! M2: how plain data stand in the heap. -/
namespace Mini
open PySem L2

section
variable (K : PySem.W.Frag)
/-- a tuple without a dict of its own -/
def TupAt (H : Hp) (a : Addr) (vs : List V) : Prop := ∃ o : Obj, H a = some (.frz o (.tup vs)) ∧ o.dict = none
mutual
/-- data that never change stand at v -/
def RF (H : Hp) : D → V → Prop
  | .non, v => v = .non
  | .bl b, v => v = .bl b
  | .int i, v => v = .int i
  | .str s, v => v = .str s
  | .scr ns, v => ∃ a, v = .ref a ∧ SqL K H a (ns.map V.int)
  | .tup xs, v => ∃ a vs, v = .ref a ∧ TupAt H a vs ∧ RFs H xs vs
  | .raw xs, v => ∃ a vs, v = .ref a ∧ H a = some (.tup vs) ∧ RFs H xs vs
  | .lst m xs, v => m = false ∧ ∃ a vs, v = .ref a ∧ Rd H a (.lst vs) ∧ RFs H xs vs
  | .dK m ks ds, v => m = false ∧ ∃ a kvs, v = .ref a ∧ Rd H a (.dK kvs) ∧ kvs.map (·.1) = ks ∧ RFs H ds (kvs.map (·.2))
  | .dT m ks ds, v => m = false ∧ ∃ a kvs, v = .ref a ∧ Rd H a (.dT kvs) ∧ kvs.map (·.1) = ks ∧ RFs H ds (kvs.map (·.2))
def RFs (H : Hp) : List D → List V → Prop
  | [], vs => vs = []
  | d :: ds, vs => ∃ v r, vs = v :: r ∧ RF H d v ∧ RFs H ds r
end
mutual
/-- data that a name owns (the places of its own things: f) stand at v; what is frozen stands in Hf -/
def RV (Hf H : Hp) : D → V → List Addr → Prop
  | .non, v, f => f = [] ∧ RF K Hf .non v
  | .bl b, v, f => f = [] ∧ RF K Hf (.bl b) v
  | .int i, v, f => f = [] ∧ RF K Hf (.int i) v
  | .str s, v, f => f = [] ∧ RF K Hf (.str s) v
  | .scr s, v, f => f = [] ∧ RF K Hf (.scr s) v
  | .tup xs, v, f => f = [] ∧ RF K Hf (.tup xs) v
  | .raw xs, v, f => f = [] ∧ RF K Hf (.raw xs) v
  | .lst m xs, v, f => (m = false ∧ f = [] ∧ RF K Hf (.lst m xs) v) ∨ (m = true ∧ ∃ a vs g, v = .ref a ∧ f = a :: g ∧ H a = some (.lst vs) ∧ RVs Hf H xs vs g)
  | .dK m ks ds, v, f => (m = false ∧ f = [] ∧ RF K Hf (.dK m ks ds) v) ∨ (m = true ∧ ∃ a kvs g, v = .ref a ∧ f = a :: g ∧ H a = some (.dK kvs) ∧ kvs.map (·.1) = ks ∧ RVs Hf H ds (kvs.map (·.2)) g)
  | .dT m ks ds, v, f => (m = false ∧ f = [] ∧ RF K Hf (.dT m ks ds) v) ∨ (m = true ∧ ∃ a kvs g, v = .ref a ∧ f = a :: g ∧ H a = some (.dT kvs) ∧ kvs.map (·.1) = ks ∧ RVs Hf H ds (kvs.map (·.2)) g)
def RVs (Hf H : Hp) : List D → List V → List Addr → Prop
  | [], vs, f => vs = [] ∧ f = []
  | d :: ds, vs, f => ∃ v r f1 f2, vs = v :: r ∧ f = f1 ++ f2 ∧ RV Hf H d v f1 ∧ RVs Hf H ds r f2
end
/-- the slots -/
def RSl (Hf H : Hp) : List (Option D) → List (Option V) → List Addr → Prop
  | [], σ, f => σ = [] ∧ f = []
  | none :: ρ, σ, f => ∃ s r, σ = s :: r ∧ RSl Hf H ρ r f
  | some d :: ρ, σ, f => ∃ v r f1 f2, σ = some v :: r ∧ f = f1 ++ f2 ∧ RV K Hf H d v f1 ∧ RSl Hf H ρ r f2
end

/-- reading goes on in H' -/
structure Ext (H H' : Hp) : Prop where
  tup : ∀ a xs, H a = some (.tup xs) → H' a = some (.tup xs)
  tupF : ∀ a o xs, H a = some (.frz o (.tup xs)) → H' a = some (.frz o (.tup xs))
  lst : ∀ a xs, Rd H a (.lst xs) → Rd H' a (.lst xs)
  dK : ∀ a xs, Rd H a (.dK xs) → Rd H' a (.dK xs)
  dT : ∀ a xs, Rd H a (.dT xs) → Rd H' a (.dT xs)
theorem Ext.of {H H' : Hp} (h : ∀ a o, H a = some o → H' a = some o) : Ext H H' := by
  have q : ∀ a u, Rd H a u → Rd H' a u := fun a u r => by
    rcases r with r | ⟨o, r⟩
    · exact .inl (h _ _ r)
    · exact .inr ⟨o, h _ _ r⟩
  exact ⟨fun a xs e => h _ _ e, fun a o xs e => h _ _ e, fun a xs => q a _, fun a xs => q a _, fun a xs => q a _⟩
theorem Ext.refl (H : Hp) : Ext H H := .of fun _ _ h => h
theorem Ext.trans {H H1 H2 : Hp} (a : Ext H H1) (b : Ext H1 H2) : Ext H H2 :=
  ⟨fun x y e => b.tup x y (a.tup x y e), fun x o y e => b.tupF x o y (a.tupF x o y e), fun x y e => b.lst x y (a.lst x y e), fun x y e => b.dK x y (a.dK x y e), fun x y e => b.dT x y (a.dT x y e)⟩

section
variable {K : PySem.W.Frag}
theorem TupAt.sq {Hf H : Hp} {a : Addr} {vs : List V} (h : TupAt Hf a vs) (sb : ∀ a o, Hf a = some o → H a = some o) : SqT K H a vs := let ⟨o, h, _⟩ := h; .inl (.inr ⟨o, sb _ _ h⟩)
theorem SqL.ext {H H' : Hp} {a : Addr} {xs : List V} (e : Ext H H') (h : SqL K H a xs) : SqL K H' a xs := by
  rcases h with h | h
  · exact .inl (e.lst _ _ h)
  · exact .inr h
mutual
theorem RF.ext {H H' : Hp} (e : Ext H H') : ∀ (d : D) (v : V), RF K H d v → RF K H' d v
  | .non, v, h => by simpa only [RF] using h
  | .bl b, v, h => by simpa only [RF] using h
  | .int i, v, h => by simpa only [RF] using h
  | .str s, v, h => by simpa only [RF] using h
  | .scr s, v, h => by
    simp only [RF] at h ⊢
    obtain ⟨a, e1, e2⟩ := h
    exact ⟨a, e1, SqL.ext e e2⟩
  | .tup xs, v, h => by
    simp only [RF] at h ⊢
    obtain ⟨a, vs, e1, ⟨o, e2, e4⟩, e3⟩ := h
    exact ⟨a, vs, e1, ⟨o, e.tupF _ _ _ e2, e4⟩, RFs.ext e xs vs e3⟩
  | .raw xs, v, h => by
    simp only [RF] at h ⊢
    obtain ⟨a, vs, e1, e2, e3⟩ := h
    exact ⟨a, vs, e1, e.tup _ _ e2, RFs.ext e xs vs e3⟩
  | .lst m xs, v, h => by
    simp only [RF] at h ⊢
    obtain ⟨hm, a, vs, e1, e2, e3⟩ := h
    exact ⟨hm, a, vs, e1, e.lst _ _ e2, RFs.ext e xs vs e3⟩
  | .dK m ks ds, v, h => by
    simp only [RF] at h ⊢
    obtain ⟨hm, a, vs, e1, e2, e4, e3⟩ := h
    exact ⟨hm, a, vs, e1, e.dK _ _ e2, e4, RFs.ext e ds _ e3⟩
  | .dT m ks ds, v, h => by
    simp only [RF] at h ⊢
    obtain ⟨hm, a, vs, e1, e2, e4, e3⟩ := h
    exact ⟨hm, a, vs, e1, e.dT _ _ e2, e4, RFs.ext e ds _ e3⟩
theorem RFs.ext {H H' : Hp} (e : Ext H H') : ∀ (ds : List D) (vs : List V), RFs K H ds vs → RFs K H' ds vs
  | [], vs, h => by simpa only [RFs] using h
  | d :: ds, vs, h => by
    simp only [RFs] at h ⊢
    obtain ⟨v, r, e1, e2, e3⟩ := h
    exact ⟨v, r, e1, RF.ext e d v e2, RFs.ext e ds r e3⟩
end
theorem RFs.length {H : Hp} : ∀ {ds : List D} {vs : List V}, RFs K H ds vs → vs.length = ds.length
  | [], vs, h => by simp only [RFs] at h; simp [h]
  | d :: ds, vs, h => by
    simp only [RFs] at h
    obtain ⟨v, r, rfl, _, h⟩ := h
    simp [RFs.length h]
theorem RFs.get {H : Hp} : ∀ {ds : List D} {vs : List V} {i : Nat} {d : D}, RFs K H ds vs → ds[i]? = some d → ∃ v, vs[i]? = some v ∧ RF K H d v
  | [], vs, i, d, h, e => by simp at e
  | x :: ds, vs, i, d, h, e => by
    simp only [RFs] at h
    obtain ⟨v, r, rfl, h1, h2⟩ := h
    cases i with
    | zero => simp at e; subst e; exact ⟨v, rfl, h1⟩
    | succ i =>
      obtain ⟨w, e1, e2⟩ := RFs.get (i := i) h2 (by simpa using e)
      exact ⟨w, by simpa using e1, e2⟩
theorem RFs.app {H : Hp} : ∀ {ds es : List D} {vs ws : List V}, RFs K H ds vs → RFs K H es ws → RFs K H (ds ++ es) (vs ++ ws)
  | [], es, vs, ws, h, h2 => by simp only [RFs] at h; subst h; exact h2
  | d :: ds, es, vs, ws, h, h2 => by
    simp only [RFs] at h
    obtain ⟨v, r, rfl, h1, h3⟩ := h
    simp only [List.cons_append, RFs]
    exact ⟨v, r ++ ws, rfl, h1, RFs.app h3 h2⟩
theorem RFs.take {H : Hp} : ∀ {ds : List D} {vs : List V} (n : Nat), RFs K H ds vs → RFs K H (ds.take n) (vs.take n)
  | _, _, 0, _ => by simp [RFs]
  | [], vs, n + 1, h => by simp only [RFs] at h; subst h; simp [RFs]
  | d :: ds, vs, n + 1, h => by
    simp only [RFs] at h
    obtain ⟨v, r, rfl, h1, h3⟩ := h
    simp only [List.take_succ_cons, RFs]
    exact ⟨v, _, rfl, h1, RFs.take n h3⟩
theorem RFs.drop {H : Hp} : ∀ {ds : List D} {vs : List V} (n : Nat), RFs K H ds vs → RFs K H (ds.drop n) (vs.drop n)
  | _, _, 0, h => h
  | [], vs, n + 1, h => by simp only [RFs] at h; subst h; simp [RFs]
  | d :: ds, vs, n + 1, h => by
    simp only [RFs] at h
    obtain ⟨v, r, rfl, h1, h3⟩ := h
    simpa using RFs.drop n h3
theorem RFs.reverse {H : Hp} : ∀ {ds : List D} {vs : List V}, RFs K H ds vs → RFs K H ds.reverse vs.reverse
  | [], vs, h => by simp only [RFs] at h; subst h; simp [RFs]
  | d :: ds, vs, h => by
    simp only [RFs] at h
    obtain ⟨v, r, rfl, h1, h3⟩ := h
    simp only [List.reverse_cons]
    exact RFs.app (RFs.reverse h3) (by simp only [RFs]; exact ⟨v, [], rfl, h1, rfl⟩)
theorem RFs.one {H : Hp} {d : D} {v : V} (h : RF K H d v) : RFs K H [d] [v] := by simp only [RFs]; exact ⟨v, [], rfl, h, rfl⟩
theorem RFs.rep {H : Hp} {ds : List D} {vs : List V} (h : RFs K H ds vs) : ∀ n : Nat, RFs K H (List.replicate n ds).flatten (List.replicate n vs).flatten
  | 0 => by simp [RFs]
  | n + 1 => by
    rw [List.replicate_succ, List.replicate_succ, List.flatten_cons, List.flatten_cons]
    exact RFs.app h (RFs.rep h n)
theorem RFs.set {H : Hp} : ∀ {ds : List D} {vs : List V} (i : Nat) {d : D} {v : V}, RFs K H ds vs → RF K H d v → RFs K H (ds.set i d) (vs.set i v)
  | [], vs, i, d, v, h, h2 => by simp only [RFs] at h; subst h; simp [RFs]
  | x :: ds, vs, i, d, v, h, h2 => by
    simp only [RFs] at h
    obtain ⟨w, r, rfl, h1, h3⟩ := h
    cases i with
    | zero => simp only [List.set_cons_zero, RFs]; exact ⟨v, r, rfl, h2, h3⟩
    | succ i => simp only [List.set_cons_succ, RFs]; exact ⟨w, _, rfl, h1, RFs.set i h3 h2⟩
theorem RFs.mem {H : Hp} {ds : List D} {vs : List V} (h : RFs K H ds vs) {v : V} (hv : v ∈ vs) : ∃ d ∈ ds, RF K H d v := by
  induction ds generalizing vs with
  | nil => simp only [RFs] at h; subst h; cases hv
  | cons d ds ih =>
    simp only [RFs] at h
    obtain ⟨w, r, rfl, h1, h2⟩ := h
    rcases List.mem_cons.mp hv with rfl | hv
    · exact ⟨d, List.mem_cons_self, h1⟩
    · obtain ⟨e, he, hr⟩ := ih h2 hv
      exact ⟨e, List.mem_cons_of_mem _ he, hr⟩

/-- what is frozen bears no owner's mark -/
theorem RF.pure {H : Hp} {d : D} {v : V} (h : RF K H d v) : d.pure = true := by
  cases d <;> simp only [D.pure]
  all_goals (simp only [RF] at h; obtain ⟨rfl, _⟩ := h; rfl)
theorem D.frz_pure {d : D} (h : d.pure = true) : d.frz = d := by
  cases d <;> simp only [D.pure] at h <;> simp only [D.frz]
  all_goals (simp at h; subst h; simp)
theorem RV.of_pure {Hf H : Hp} {d : D} {v : V} {f : List Addr} (hp : d.pure = true) : RV K Hf H d v f ↔ f = [] ∧ RF K Hf d v := by
  cases d <;> simp only [RV]
  all_goals (simp only [D.pure, Bool.not_eq_true'] at hp; subst hp; simp)
theorem RV.of_RF {Hf H : Hp} {d : D} {v : V} (h : RF K Hf d v) : RV K Hf H d v [] := (RV.of_pure h.pure).mpr ⟨rfl, h⟩
theorem D.pures_cons {x : D} {xs : List D} : D.pures (x :: xs) = (x.pure && D.pures xs) := by simp [D.pures]
theorem RVs.of_pures {Hf H : Hp} : ∀ {ds : List D} {vs : List V} {f : List Addr}, D.pures ds = true → (RVs K Hf H ds vs f ↔ f = [] ∧ RFs K Hf ds vs)
  | [], vs, f, _ => by simp only [RVs, RFs]; exact and_comm
  | d :: ds, vs, f, h => by
    rw [D.pures_cons, Bool.and_eq_true] at h
    simp only [RVs, RFs]
    constructor
    · rintro ⟨v, r, f1, f2, e1, e2, h1, h2⟩
      obtain ⟨rfl, q1⟩ := (RV.of_pure h.1).mp h1
      obtain ⟨rfl, q2⟩ := (RVs.of_pures h.2).mp h2
      exact ⟨by simpa using e2, v, r, e1, q1, q2⟩
    · rintro ⟨rfl, v, r, e1, h1, h2⟩
      exact ⟨v, r, [], [], e1, rfl, (RV.of_pure h.1).mpr ⟨rfl, h1⟩, (RVs.of_pures h.2).mpr ⟨rfl, h2⟩⟩
theorem RFs.pures {H : Hp} : ∀ {ds : List D} {vs : List V}, RFs K H ds vs → D.pures ds = true
  | [], vs, h => rfl
  | d :: ds, vs, h => by
    simp only [RFs] at h
    obtain ⟨v, r, rfl, h1, h2⟩ := h
    rw [D.pures_cons, h1.pure, RFs.pures h2]; rfl
theorem RVs.of_RFs {Hf H : Hp} {ds : List D} {vs : List V} (h : RFs K Hf ds vs) : RVs K Hf H ds vs [] := (RVs.of_pures h.pures).mpr ⟨rfl, h⟩

mutual
/-- kept: the owned places as they were, the frozen ones readable -/
theorem RV.keep {Hf H Hf' H' : Hp} (e : Ext Hf Hf') : ∀ (d : D) (v : V) (f : List Addr), RV K Hf H d v f → (∀ a ∈ f, H' a = H a) → RV K Hf' H' d v f
  | .non, v, f, h, k => by simp only [RV] at h ⊢; exact ⟨h.1, RF.ext e _ _ h.2⟩
  | .bl b, v, f, h, k => by simp only [RV] at h ⊢; exact ⟨h.1, RF.ext e _ _ h.2⟩
  | .int i, v, f, h, k => by simp only [RV] at h ⊢; exact ⟨h.1, RF.ext e _ _ h.2⟩
  | .str s, v, f, h, k => by simp only [RV] at h ⊢; exact ⟨h.1, RF.ext e _ _ h.2⟩
  | .scr s, v, f, h, k => by simp only [RV] at h ⊢; exact ⟨h.1, RF.ext e _ _ h.2⟩
  | .tup xs, v, f, h, k => by simp only [RV] at h ⊢; exact ⟨h.1, RF.ext e _ _ h.2⟩
  | .raw xs, v, f, h, k => by simp only [RV] at h ⊢; exact ⟨h.1, RF.ext e _ _ h.2⟩
  | .lst m xs, v, f, h, k => by
    simp only [RV] at h ⊢
    rcases h with ⟨hm, hf, h⟩ | ⟨hm, a, vs, g, e1, rfl, e3, e4⟩
    · exact .inl ⟨hm, hf, RF.ext e _ _ h⟩
    · exact .inr ⟨hm, a, vs, g, e1, rfl, (k a List.mem_cons_self).trans e3, RVs.keep e xs vs g e4 fun b hb => k b (List.mem_cons_of_mem _ hb)⟩
  | .dK m ks ds, v, f, h, k => by
    simp only [RV] at h ⊢
    rcases h with ⟨hm, hf, h⟩ | ⟨hm, a, vs, g, e1, rfl, e3, e5, e4⟩
    · exact .inl ⟨hm, hf, RF.ext e _ _ h⟩
    · exact .inr ⟨hm, a, vs, g, e1, rfl, (k a List.mem_cons_self).trans e3, e5, RVs.keep e ds _ g e4 fun b hb => k b (List.mem_cons_of_mem _ hb)⟩
  | .dT m ks ds, v, f, h, k => by
    simp only [RV] at h ⊢
    rcases h with ⟨hm, hf, h⟩ | ⟨hm, a, vs, g, e1, rfl, e3, e5, e4⟩
    · exact .inl ⟨hm, hf, RF.ext e _ _ h⟩
    · exact .inr ⟨hm, a, vs, g, e1, rfl, (k a List.mem_cons_self).trans e3, e5, RVs.keep e ds _ g e4 fun b hb => k b (List.mem_cons_of_mem _ hb)⟩
theorem RVs.keep {Hf H Hf' H' : Hp} (e : Ext Hf Hf') : ∀ (ds : List D) (vs : List V) (f : List Addr), RVs K Hf H ds vs f → (∀ a ∈ f, H' a = H a) → RVs K Hf' H' ds vs f
  | [], vs, f, h, k => by simpa only [RVs] using h
  | d :: ds, vs, f, h, k => by
    simp only [RVs] at h ⊢
    obtain ⟨v, r, f1, f2, e1, rfl, h1, h2⟩ := h
    exact ⟨v, r, f1, f2, e1, rfl, RV.keep e d v f1 h1 fun a ha => k a (List.mem_append_left _ ha), RVs.keep e ds r f2 h2 fun a ha => k a (List.mem_append_right _ ha)⟩
end
theorem RSl.keep {Hf H Hf' H' : Hp} (e : Ext Hf Hf') : ∀ (ρ : List (Option D)) (σ : List (Option V)) (f : List Addr), RSl K Hf H ρ σ f → (∀ a ∈ f, H' a = H a) → RSl K Hf' H' ρ σ f
  | [], σ, f, h, k => by simpa only [RSl] using h
  | none :: ρ, σ, f, h, k => by
    simp only [RSl] at h ⊢
    obtain ⟨s, r, e1, h⟩ := h
    exact ⟨s, r, e1, RSl.keep e ρ r f h k⟩
  | some d :: ρ, σ, f, h, k => by
    simp only [RSl] at h ⊢
    obtain ⟨v, r, f1, f2, e1, rfl, h1, h2⟩ := h
    exact ⟨v, r, f1, f2, e1, rfl, RV.keep e d v f1 h1 fun a ha => k a (List.mem_append_left _ ha), RSl.keep e ρ r f2 h2 fun a ha => k a (List.mem_append_right _ ha)⟩

mutual
theorem RV.tracked {Hf H : Hp} : ∀ (d : D) (v : V) (f : List Addr), RV K Hf H d v f → ∀ a ∈ f, ∃ o, H a = some o ∧ Mut (some o)
  | .non, v, f, h => by simp only [RV] at h; rw [h.1]; exact fun a ha => nomatch ha
  | .bl b, v, f, h => by simp only [RV] at h; rw [h.1]; exact fun a ha => nomatch ha
  | .int i, v, f, h => by simp only [RV] at h; rw [h.1]; exact fun a ha => nomatch ha
  | .str s, v, f, h => by simp only [RV] at h; rw [h.1]; exact fun a ha => nomatch ha
  | .scr s, v, f, h => by simp only [RV] at h; rw [h.1]; exact fun a ha => nomatch ha
  | .tup xs, v, f, h => by simp only [RV] at h; rw [h.1]; exact fun a ha => nomatch ha
  | .raw xs, v, f, h => by simp only [RV] at h; rw [h.1]; exact fun a ha => nomatch ha
  | .lst m xs, v, f, h => by
    simp only [RV] at h
    rcases h with ⟨_, rfl, _⟩ | ⟨_, b, vs, g, _, rfl, e3, e4⟩
    · exact fun a ha => nomatch ha
    · intro a ha
      rcases List.mem_cons.mp ha with rfl | ha
      · exact ⟨_, e3, trivial⟩
      · exact RVs.tracked xs vs g e4 a ha
  | .dK m ks ds, v, f, h => by
    simp only [RV] at h
    rcases h with ⟨_, rfl, _⟩ | ⟨_, b, vs, g, _, rfl, e3, _, e4⟩
    · exact fun a ha => nomatch ha
    · intro a ha
      rcases List.mem_cons.mp ha with rfl | ha
      · exact ⟨_, e3, trivial⟩
      · exact RVs.tracked ds _ g e4 a ha
  | .dT m ks ds, v, f, h => by
    simp only [RV] at h
    rcases h with ⟨_, rfl, _⟩ | ⟨_, b, vs, g, _, rfl, e3, _, e4⟩
    · exact fun a ha => nomatch ha
    · intro a ha
      rcases List.mem_cons.mp ha with rfl | ha
      · exact ⟨_, e3, trivial⟩
      · exact RVs.tracked ds _ g e4 a ha
theorem RVs.tracked {Hf H : Hp} : ∀ (ds : List D) (vs : List V) (f : List Addr), RVs K Hf H ds vs f → ∀ a ∈ f, ∃ o, H a = some o ∧ Mut (some o)
  | [], vs, f, h => by simp only [RVs] at h; rw [h.2]; exact fun a ha => nomatch ha
  | d :: ds, vs, f, h => by
    simp only [RVs] at h
    obtain ⟨v, r, f1, f2, e1, rfl, h1, h2⟩ := h
    intro a ha
    rcases List.mem_append.mp ha with ha | ha
    · exact RV.tracked d v f1 h1 a ha
    · exact RVs.tracked ds r f2 h2 a ha
end
theorem RSl.tracked {Hf H : Hp} : ∀ {ρ : List (Option D)} {σ : List (Option V)} {f : List Addr}, RSl K Hf H ρ σ f → ∀ a ∈ f, ∃ o, H a = some o ∧ Mut (some o)
  | [], σ, f, h => by simp only [RSl] at h; rw [h.2]; exact fun a ha => nomatch ha
  | none :: ρ, σ, f, h => by
    simp only [RSl] at h
    obtain ⟨s, r, e1, h⟩ := h
    exact RSl.tracked h
  | some d :: ρ, σ, f, h => by
    simp only [RSl] at h
    obtain ⟨v, r, f1, f2, e1, rfl, h1, h2⟩ := h
    intro a ha
    rcases List.mem_append.mp ha with ha | ha
    · exact RV.tracked d v f1 h1 a ha
    · exact RSl.tracked h2 a ha

mutual
/-- an owner's thing is frozen -/
theorem RV.freeze {Hf H Hf' : Hp} (e : Ext Hf Hf') : ∀ (d : D) (v : V) (f : List Addr), RV K Hf H d v f → (∀ a ∈ f, Hf' a = H a) → RF K Hf' d.frz v
  | .non, v, f, h, k => by simp only [RV] at h; exact RF.ext e _ _ h.2
  | .bl b, v, f, h, k => by simp only [RV] at h; exact RF.ext e _ _ h.2
  | .int i, v, f, h, k => by simp only [RV] at h; exact RF.ext e _ _ h.2
  | .str s, v, f, h, k => by simp only [RV] at h; exact RF.ext e _ _ h.2
  | .scr s, v, f, h, k => by simp only [RV] at h; exact RF.ext e _ _ h.2
  | .tup xs, v, f, h, k => by simp only [RV] at h; exact RF.ext e _ _ h.2
  | .raw xs, v, f, h, k => by simp only [RV] at h; exact RF.ext e _ _ h.2
  | .lst m xs, v, f, h, k => by
    simp only [RV] at h
    rcases h with ⟨hm, hf, h⟩ | ⟨hm, a, vs, g, e1, rfl, e3, e4⟩
    · rw [D.frz_pure h.pure]; exact RF.ext e _ _ h
    · simp only [D.frz, hm, if_true, RF]
      exact ⟨trivial, a, vs, e1, .inl ((k a List.mem_cons_self).trans e3), RVs.freeze e xs vs g e4 fun b hb => k b (List.mem_cons_of_mem _ hb)⟩
  | .dK m ks ds, v, f, h, k => by
    simp only [RV] at h
    rcases h with ⟨hm, hf, h⟩ | ⟨hm, a, vs, g, e1, rfl, e3, e5, e4⟩
    · rw [D.frz_pure h.pure]; exact RF.ext e _ _ h
    · simp only [D.frz, hm, if_true, RF]
      exact ⟨trivial, a, vs, e1, .inl ((k a List.mem_cons_self).trans e3), e5, RVs.freeze e ds _ g e4 fun b hb => k b (List.mem_cons_of_mem _ hb)⟩
  | .dT m ks ds, v, f, h, k => by
    simp only [RV] at h
    rcases h with ⟨hm, hf, h⟩ | ⟨hm, a, vs, g, e1, rfl, e3, e5, e4⟩
    · rw [D.frz_pure h.pure]; exact RF.ext e _ _ h
    · simp only [D.frz, hm, if_true, RF]
      exact ⟨trivial, a, vs, e1, .inl ((k a List.mem_cons_self).trans e3), e5, RVs.freeze e ds _ g e4 fun b hb => k b (List.mem_cons_of_mem _ hb)⟩
theorem RVs.freeze {Hf H Hf' : Hp} (e : Ext Hf Hf') : ∀ (ds : List D) (vs : List V) (f : List Addr), RVs K Hf H ds vs f → (∀ a ∈ f, Hf' a = H a) → RFs K Hf' (D.frzs ds) vs
  | [], vs, f, h, k => by simp only [RVs] at h; simp only [D.frzs, RFs]; exact h.1
  | d :: ds, vs, f, h, k => by
    simp only [RVs] at h
    obtain ⟨v, r, f1, f2, e1, rfl, h1, h2⟩ := h
    simp only [D.frzs, RFs]
    exact ⟨v, r, e1, RV.freeze e d v f1 h1 fun a ha => k a (List.mem_append_left _ ha), RVs.freeze e ds r f2 h2 fun a ha => k a (List.mem_append_right _ ha)⟩
end

/-! ### states -/
structure Sta (Hf H : Hp) (F : List Addr) : Prop where
  nd : F.Nodup
  off : ∀ a ∈ F, Hf a = none
  sub : ∀ a o, Hf a = some o → H a = some o
structure Step (Hf H : Hp) (F : List Addr) (Hf' H' : Hp) (F' : List Addr) : Prop where
  hf : ∀ a o, Hf a = some o → Hf' a = some o
  keep : ∀ a o, H a = some o → a ∉ F → H' a = some o
  own : ∀ a ∈ F', a ∈ F ∨ H a = none
  new : ∀ a o, Hf' a = some o → Hf a = some o ∨ a ∈ F ∨ H a = none ∨ ∃ vs, H a = some (.tup vs)
theorem Step.refl (Hf H : Hp) (F : List Addr) : Step Hf H F Hf H F := ⟨fun _ _ h => h, fun _ _ h _ => h, fun _ h => .inl h, fun _ _ h => .inl h⟩
theorem Step.trans {Hf H Hf1 H1 Hf2 H2 : Hp} {F F1 F2 : List Addr} (a : Step Hf H F Hf1 H1 F1) (b : Step Hf1 H1 F1 Hf2 H2 F2) : Step Hf H F Hf2 H2 F2 := by
  have back : ∀ x, H1 x = none → x ∈ F ∨ H x = none := fun x e => by
    cases q : H x with
    | none => exact .inr rfl
    | some o =>
      by_cases hx : x ∈ F
      · exact .inl hx
      · rw [a.keep x o q hx] at e; cases e
  refine ⟨fun x o h => b.hf x o (a.hf x o h), fun x o h hx => b.keep x o (a.keep x o h hx) fun h1 => ?_, fun x hx => ?_, fun x o h => ?_⟩
  · rcases a.own x h1 with q | q
    · exact hx q
    · rw [q] at h; cases h
  · rcases b.own x hx with q | q
    · exact a.own x q
    · exact back x q
  · rcases b.new x o h with q | q | q | ⟨vs, q⟩
    · exact a.new x o q
    · exact (a.own x q).elim (fun z => .inr (.inl z)) fun z => .inr (.inr (.inl z))
    · exact (back x q).elim (fun z => .inr (.inl z)) fun z => .inr (.inr (.inl z))
    · by_cases hx : x ∈ F
      · exact .inr (.inl hx)
      · cases e : H x with
        | none => exact .inr (.inr (.inl rfl))
        | some o' =>
          have := a.keep x o' e hx
          rw [q] at this
          exact .inr (.inr (.inr ⟨vs, this.symm⟩))
theorem Step.mono {Hf H Hf1 H1 : Hp} {F F1 F2 : List Addr} (a : Step Hf H F Hf1 H1 F1) (h : ∀ x ∈ F2, x ∈ F1) : Step Hf H F Hf1 H1 F2 := ⟨a.hf, a.keep, fun x hx => a.own x (h x hx), a.new⟩
theorem Step.ext {Hf H Hf1 H1 : Hp} {F F1 : List Addr} (a : Step Hf H F Hf1 H1 F1) : Ext Hf Hf1 := .of a.hf
/-- the same step, with more that stands by -/
theorem Step.wide {Hf H Hf1 H1 : Hp} {F F1 g : List Addr} (a : Step Hf H F Hf1 H1 F1) : Step Hf H (F ++ g) Hf1 H1 (F1 ++ g) :=
  ⟨a.hf, fun x o h hx => a.keep x o h fun q => hx (List.mem_append_left _ q), fun x hx => by
    rcases List.mem_append.mp hx with q | q
    · exact (a.own x q).imp (List.mem_append_left _) id
    · exact .inl (List.mem_append_right _ q), fun x o h => (a.new x o h).imp id fun q => q.imp (List.mem_append_left _) id⟩
theorem Sta.less {Hf H : Hp} {F F1 : List Addr} (s : Sta Hf H F) (h : F1.Sublist F) : Sta Hf H F1 := ⟨s.nd.sublist h, fun a ha => s.off a (h.subset ha), s.sub⟩
/-- what stands by (g, tracked, apart) stays through a step -/
theorem Step.by_ {Hf H Hf1 H1 : Hp} {F F1 g : List Addr} (s : Sta Hf H (F ++ g)) (tr : ∀ a ∈ g, ∃ o, H a = some o ∧ Mut (some o)) (st : Step Hf H F Hf1 H1 F1) (s1 : Sta Hf1 H1 F1) :
    Sta Hf1 H1 (F1 ++ g) ∧ ∀ a ∈ g, H1 a = H a := by
  have apart : ∀ a ∈ g, a ∉ F := fun a ha hb => (List.nodup_append.mp s.nd).2.2 a hb a ha rfl
  refine ⟨⟨?_, ?_, s1.sub⟩, fun a ha => ?_⟩
  · refine List.nodup_append.mpr ⟨s1.nd, (List.nodup_append.mp s.nd).2.1, fun a ha b hb e => ?_⟩
    subst e
    rcases st.own a ha with q | q
    · exact apart a hb q
    · obtain ⟨o, e, _⟩ := tr a hb
      rw [q] at e; cases e
  · intro a ha
    rcases List.mem_append.mp ha with q | q
    · exact s1.off a q
    · cases e : Hf1 a with
      | none => rfl
      | some o =>
        rcases st.new a o e with z | z | z | ⟨vs, z⟩
        · rw [s.off a (List.mem_append_right _ q)] at z; cases z
        · exact absurd z (apart a q)
        · obtain ⟨o', e', _⟩ := tr a q
          rw [z] at e'; cases e'
        · obtain ⟨o', e', m⟩ := tr a q
          rw [z] at e'; cases e'
          cases m
  · obtain ⟨o, e, _⟩ := tr a ha
    rw [e]; exact st.keep a o e (apart a ha)

/-! ### slots -/
theorem RSl.length {Hf H : Hp} : ∀ {ρ : List (Option D)} {σ : List (Option V)} {f : List Addr}, RSl K Hf H ρ σ f → σ.length = ρ.length
  | [], σ, f, h => by simp only [RSl] at h; simp [h.1]
  | none :: ρ, σ, f, h => by
    simp only [RSl] at h
    obtain ⟨s, r, rfl, h⟩ := h
    simp [RSl.length h]
  | some d :: ρ, σ, f, h => by
    simp only [RSl] at h
    obtain ⟨v, r, f1, f2, rfl, rfl, h1, h2⟩ := h
    simp [RSl.length h2]
/-- a slot, and how another value is put there -/
theorem RSl.at_ {Hf H : Hp} : ∀ {ρ : List (Option D)} {σ : List (Option V)} {F : List Addr} {i : Nat} {d : D}, RSl K Hf H ρ σ F → getS ρ i = some d →
    ∃ v p g q, σ[i]? = some (some v) ∧ F = p ++ g ++ q ∧ RV K Hf H d v g ∧ RSl K Hf H (ρ.set i none) σ (p ++ q) ∧
      ∀ (Hf' H' : Hp) (d' : D) (g' : List Addr), Ext Hf Hf' → (∀ a ∈ p ++ q, H' a = H a) → RV K Hf' H' d' v g' → RSl K Hf' H' (ρ.set i (some d')) σ (p ++ g' ++ q)
  | [], σ, F, i, d, h, e => by simp [getS] at e
  | none :: ρ, σ, F, i, d, h, e => by
    simp only [RSl] at h
    obtain ⟨s, r, rfl, h⟩ := h
    cases i with
    | zero => simp [getS] at e
    | succ i =>
      obtain ⟨v, p, g, q, e1, e2, h1, h2, h3⟩ := RSl.at_ (i := i) h (by simpa [getS] using e)
      refine ⟨v, p, g, q, by simpa using e1, e2, h1, ?_, fun Hf' H' d' g' x k r' => ?_⟩
      · simp only [List.set_cons_succ, RSl]; exact ⟨s, r, rfl, h2⟩
      · simp only [List.set_cons_succ, RSl]; exact ⟨s, r, rfl, h3 Hf' H' d' g' x k r'⟩
  | some d0 :: ρ, σ, F, i, d, h, e => by
    simp only [RSl] at h
    obtain ⟨v0, r, f1, f2, rfl, rfl, h1, h2⟩ := h
    cases i with
    | zero =>
      simp [getS] at e; subst e
      refine ⟨v0, [], f1, f2, rfl, by simp, h1, ?_, fun Hf' H' d' g' x k r' => ?_⟩
      · simp only [List.set_cons_zero, RSl, List.nil_append]; exact ⟨some v0, r, rfl, h2⟩
      · simp only [List.set_cons_zero, RSl, List.nil_append]
        exact ⟨v0, r, g', f2, rfl, rfl, r', RSl.keep x _ _ _ h2 (by simpa using k)⟩
    | succ i =>
      obtain ⟨v, p, g, q, e1, e2, h3, h4, h5⟩ := RSl.at_ (i := i) h2 (by simpa [getS] using e)
      subst e2
      refine ⟨v, f1 ++ p, g, q, by simpa using e1, by simp [List.append_assoc], h3, ?_, fun Hf' H' d' g' x k r' => ?_⟩
      · simp only [List.set_cons_succ, RSl]; exact ⟨v0, r, f1, p ++ q, rfl, by simp [List.append_assoc], h1, h4⟩
      · simp only [List.set_cons_succ, RSl]
        refine ⟨v0, r, f1, p ++ g' ++ q, rfl, by simp [List.append_assoc], RV.keep x _ _ _ h1 fun a ha => k a (by simp [ha]), h5 Hf' H' d' g' x (fun a ha => k a ?_) r'⟩
        simp only [List.mem_append] at ha ⊢
        rcases ha with ha | ha
        · exact .inl (.inr ha)
        · exact .inr ha
/-- a slot forgotten -/
theorem RSl.forget {Hf H : Hp} : ∀ {ρ : List (Option D)} {σ : List (Option V)} {F : List Addr} (i : Nat), RSl K Hf H ρ σ F → ∃ F', F'.Sublist F ∧ RSl K Hf H (ρ.set i none) σ F'
  | [], σ, F, i, h => ⟨F, List.Sublist.refl _, by simpa using h⟩
  | none :: ρ, σ, F, i, h => by
    simp only [RSl] at h
    obtain ⟨s, r, rfl, h⟩ := h
    cases i with
    | zero => exact ⟨F, List.Sublist.refl _, by simp only [List.set_cons_zero, RSl]; exact ⟨s, r, rfl, h⟩⟩
    | succ i =>
      obtain ⟨F', hs, h⟩ := RSl.forget i h
      exact ⟨F', hs, by simp only [List.set_cons_succ, RSl]; exact ⟨s, r, rfl, h⟩⟩
  | some d0 :: ρ, σ, F, i, h => by
    simp only [RSl] at h
    obtain ⟨v0, r, f1, f2, rfl, rfl, h1, h2⟩ := h
    cases i with
    | zero => exact ⟨f2, List.sublist_append_right _ _, by simp only [List.set_cons_zero, RSl]; exact ⟨some v0, r, rfl, h2⟩⟩
    | succ i =>
      obtain ⟨F', hs, h⟩ := RSl.forget i h2
      exact ⟨f1 ++ F', List.Sublist.append (List.Sublist.refl _) hs, by simp only [List.set_cons_succ, RSl]; exact ⟨v0, r, f1, F', rfl, rfl, h1, h⟩⟩
/-- a slot that bears nothing known is set -/
theorem RSl.put {Hf H : Hp} : ∀ {ρ : List (Option D)} {σ : List (Option V)} {F : List Addr} (i : Nat) {d : D} {v : V} {g : List Addr}, RSl K Hf H ρ σ F → i < ρ.length → RV K Hf H d v g →
    ∃ p q F', F' = p ++ g ++ q ∧ (p ++ q).Sublist F ∧ RSl K Hf H (ρ.set i (some d)) (σ.set i (some v)) F'
  | [], σ, F, i, d, v, g, h, hi, r => by simp at hi
  | none :: ρ, σ, F, i, d, v, g, h, hi, hr => by
    simp only [RSl] at h
    obtain ⟨s, r, rfl, h⟩ := h
    cases i with
    | zero => exact ⟨[], F, _, rfl, List.Sublist.refl _, by simp only [List.set_cons_zero, RSl]; exact ⟨v, r, g, F, rfl, rfl, hr, h⟩⟩
    | succ i =>
      obtain ⟨p, q, F', e, hs, h⟩ := RSl.put i h (by simpa using hi) hr
      exact ⟨p, q, F', e, hs, by simp only [List.set_cons_succ, RSl]; exact ⟨s, _, rfl, h⟩⟩
  | some d0 :: ρ, σ, F, i, d, v, g, h, hi, hr => by
    simp only [RSl] at h
    obtain ⟨v0, r, f1, f2, rfl, rfl, h1, h2⟩ := h
    cases i with
    | zero => exact ⟨[], f2, _, rfl, List.sublist_append_right _ _, by simp only [List.set_cons_zero, RSl]; exact ⟨v, r, g, f2, rfl, rfl, hr, h2⟩⟩
    | succ i =>
      obtain ⟨p, q, F', e, hs, h⟩ := RSl.put i h2 (by simpa using hi) hr
      subst e
      exact ⟨f1 ++ p, q, f1 ++ p ++ g ++ q, rfl, by rw [List.append_assoc]; exact List.Sublist.append (List.Sublist.refl _) hs, by
        simp only [List.set_cons_succ, RSl]; exact ⟨v0, _, f1, p ++ g ++ q, rfl, by simp [List.append_assoc], h1, h⟩⟩
end
end Mini
set_option linter.all false
set_option maxRecDepth 100000
/-! M2b: tuples that are made here have no dict of their own. -/
namespace Mini
open PySem PySem.Spec PyProof.Rows L2
/-- a new tuple's record -/
def tupObj (its : Array Value) : Obj := { cls := .type "tuple", data := .seq its }
section
variable {X : Cx} {pins : List (Addr × Obj)} {σ : L2.St} {H : Hp} {s : Shared}
/-- the new tuple is known -/
theorem made_tup {Q : VK} {its : List Value} {xs : List V} (I : L2.Inv X pins σ H s) (r : Vals xs its) (z : xs.length ≤ sizeLine) (tk : Nat) (q : ∀ p o, H p = none → o.dict = none → Q (.ref p) (upd H p (.frz o (.tup xs)))) :
    EP X pins σ Q (.ref s.heap.objs.size) { s with heap := s.heap.push (tupObj its.toArray), toks := tk } := by
  have new : ObjOk X.prog X.w (upd H s.heap.objs.size (.frz (tupObj its.toArray) (.tup xs))) (s.heap.push (tupObj its.toArray)) s.heap.objs.size (.frz (tupObj its.toArray) (.tup xs)) :=
    ⟨Heap.get?_push_size _ rfl, z, its, r, ⟨_, Heap.get?_push_size _ rfl, rfl, _, rfl⟩⟩
  exact ⟨.ref s.heap.objs.size, _, I.laid (t' := tk) (fun b u e => Heap.get?_push_of_some _ e) (Nat.le_refl _) new, rfl, q _ _ (I.hok.fresh (Nat.le_refl _)) rfl⟩
/-- the word behind a new tuple -/
abbrev NewT (xs : List V) (H : Hp) (Q : VK) : Prop := ∀ (p : Addr) (o : Obj), H p = none → o.dict = none → Q (.ref p) (upd H p (.frz o (.tup xs)))
def tTupF (t : TA) : TE := fun σ H Q => t σ H fun xs H1 => xs.length ≤ sizeLine ∧ NewT xs H1 Q
theorem pe_tupF {es : List Expr} {x1 : Nat} {pos : Pos} {t : TA} (h : PA X es t) : PE X (.Tuple es x1 pos) (tTupF t) := by
  refine ⟨fun pins s σ H Q I hq => wpAny_Tuple_spliced (thn (h.run pos pins s σ H _ I hq) fun us s1 told => ?_)⟩
  obtain ⟨xs, H1, I1, r, z, q⟩ := told
  exact ⟨by rw [← r.length]; exact z, made_tup I1 r z s1.toks q⟩
def rCatF (K : PySem.W.Frag) : R2 := fun x y H Q => ∃ a b xs ys, x = .ref a ∧ y = .ref b ∧ SqT K H a xs ∧ SqT K H b ys ∧ xs.length + ys.length ≤ sizeLine ∧
  (xs = [] → Q (.ref b) H) ∧ (xs ≠ [] → ys = [] → Q (.ref a) H) ∧ (xs ≠ [] → ys ≠ [] → NewT (xs ++ ys) H Q)
theorem op_catF : OpR X (binaryOp .Add) (rCatF X.K) := by
  intro pins s σ H x y v u Q I rx ry h
  obtain ⟨a, b, xs, ys, rfl, rfl, ha, hb, hz, q0, q1, q2⟩ := h
  cases rx
  cases ry
  obtain ⟨its, r1, p1, _⟩ := I.tuple ha
  obtain ⟨its2, r2, p2, _⟩ := I.tuple hb
  by_cases hx : xs = []
  · subst hx
    cases r1
    exact cat_tup0 p1 p2 ⟨.ref b, H, I, rfl, q0 rfl⟩
  · refine HT.cat_tup p1 p2 (fun z => hx (r1.nil_iff.mp z)) (fun z => ⟨.ref a, H, I, rfl, q1 hx (r2.nil_iff.mp z)⟩) (fun z => ?_) (by rw [← r1.length, ← r2.length]; exact hz)
    exact made_tup I (r1.append r2) (by rw [List.length_append]; exact hz) s.toks (q2 hx fun w => z (r2.nil_iff.mpr w))
def rSlF (K : PySem.W.Frag) : V → Option Int → Option Int → Hp → VK → Prop := fun x lo hi H Q => ∃ a xs, x = .ref a ∧ SqT K H a xs ∧
  (HT.sIx xs.length 0 lo = 0 ∧ HT.sIx xs.length xs.length hi = xs.length → Q (.ref a) H) ∧ (¬ (HT.sIx xs.length 0 lo = 0 ∧ HT.sIx xs.length xs.length hi = xs.length) → NewT (cutV xs lo hi) H Q)
theorem sl_tupF : SlR X (rSlF X.K) := by
  intro pins s σ H x v vl vu lo hi sl Q I rx hs pl pu h
  obtain ⟨a, xs, rfl, hx, q1, q2⟩ := h
  cases rx
  obtain ⟨its, r, ht, hz⟩ := I.tuple hx
  have hlen : its.toArray.size = xs.length := by rw [List.size_toArray]; exact r.length.symm
  refine ⟨"tuple", _, PyProof.Rows.slot_tuple_getitem.lookup, ht.typeIs, ?_⟩
  by_cases hw : HT.sIx xs.length 0 lo = 0 ∧ HT.sIx xs.length xs.length hi = xs.length
  · exact getItem_tuple_whole ht hs pl pu (by rw [hlen]; exact hw) ⟨.ref a, H, I, rfl, q1 hw⟩
  · refine HT.getItem_tuple_cut ht hs pl pu (by rw [hlen]; exact hw) ?_ (by rw [hlen]; exact hz)
    rw [hlen]
    exact made_tup I ((r.drop (HT.sIx xs.length 0 lo)).take (HT.sIx xs.length xs.length hi - HT.sIx xs.length 0 lo)) (Nat.le_trans (cutV_length xs lo hi) hz) s.toks (q2 hw)
theorem call_tupF : CallR X (.type "tuple") (fun xs H Q => ∃ p ys, xs = [.ref p] ∧ ((SqL X.K H p ys ∧ NewT ys H Q) ∨ (SqT X.K H p ys ∧ Q (.ref p) H))) := by
  intro pins s σ H xs us Q I r h
  obtain ⟨p, ys, rfl, h⟩ := h
  obtain ⟨u, rfl, rx⟩ := vals1 r
  cases rx
  rcases h with ⟨hq, q⟩ | ⟨hq, q⟩
  · obtain ⟨its, r', pl, hz⟩ := I.list hq
    have hlen := r'.length
    refine call_tuple_list pl.isList (fun h' kp => ?_) (by simp only [List.size_toArray]; omega)
    have I1 : L2.Inv X pins σ H { s with heap := h' } := I.kept (t' := s.toks) kp
    exact made_tup I1 r' hz s.toks q
  · obtain ⟨its, r', pl, hz⟩ := I.tuple hq
    exact call_tuple_same pl ⟨.ref p, H, I, rfl, q⟩
def tTupRgF (te : L2.St → Hp → (Int → Int → Hp → Prop) → Prop) : TE := fun σ H Q => te σ H fun a b H1 => RgOk a b ∧ NewT (rgV a b) H1 Q
theorem pe_tupRgF {e : Expr} {te : L2.St → Hp → (Int → Int → Hp → Prop) → Prop} {p pos : Pos} (hc : X.calm = true) (hg : Gl X "tuple") (hm : X.mg "tuple" = none) (he : PRg X e te) (na : starEach [e] X.env = (false, eval e X.env) :: starEach [] X.env) : PE X (.Call (.Name "tuple" p) [e] [] pos) (tTupRgF te) := by
  refine ⟨fun pins s σ H Q I h => Call_ (ld_blt I hg hm boot_tuple (PyProof.Rows.callWith_type1 (args_cons (thn (he pins s σ H _ I h) fun x s1 told => args_nil ?_) na) na))⟩
  obtain ⟨r, a, b, t, u, v, H1, ex, hr, I1, ok, q⟩ := told
  subst ex
  obtain ⟨b1, b2, b3, b4, b5⟩ := ok
  refine call_tuple_range (n := (b - a).toNat) (I1.ok.hd hc) hr (small_one b1 b2 b3 b4) (rangeSize_nat a b) b5 fun h' tk acc hk hi => ?_
  have I2 : L2.Inv X pins σ H1 { s1 with heap := h', toks := tk } := I1.kept hk
  have := made_tup I2 (vals_rg hi) (by rw [rgV_length, sizeLine_eq]; omega) tk q
  rw [Array.toArray_toList] at this
  exact this
end
/-! ### [::-1] -/
section
variable {prog : Program} {w : World} {A : Around} {E : Value → Shared → Prop} {s : Shared}
theorem neg_part {sl : Addr} {n : Nat} {t : Tok} {Q : Int × Int × Nat → Shared → Prop} (hs : s.heap.IsSliceOf sl .none .none (.int (-1) t))
    (h : Q ((n : Int) - 1, -1, n) s) : wpAny (model prog w) A (Builtin.Slice.sliceApplied (.ref sl) (pure (n : Int))) Q E s := by
  obtain ⟨ob, h1, h2, h3⟩ := id hs
  unfold Builtin.Slice.sliceApplied Builtin.Slice.sliceFields
  refine wpAny_bind (wpAny_bind (wpAny_field h1 h3 (x := .none) rfl (wpAny_bind (wpAny_field h1 h3 (x := .none) rfl (wpAny_bind (wpAny_field h1 h3 (x := .int (-1) t) rfl (wpAny_pure ?_)))))))
  refine wpAny_bind (slicePart_int ?_)
  show wpAny _ _ (if ((-1 : Int) == 0) = true then _ else _) _ _ s
  rw [if_neg (by decide)]
  refine wpAny_bind (slicePart_none (wpAny_bind (slicePart_none (wpAny_bind (wpAny_pure ?_)))))
  show wpAny _ _ (match Builtin.Slice.sliceAdjust none none (-1) (n : Int) with | (lo, hi) => pure (lo, (-1 : Int), Builtin.Slice.slicePlaces lo hi (-1))) _ _ s
  have ea : Builtin.Slice.sliceAdjust none none (-1) (n : Int) = ((n : Int) - 1, -1) := by
    unfold Builtin.Slice.sliceAdjust
    simp
  rw [ea]
  show wpAny _ _ (pure ((n : Int) - 1, (-1 : Int), Builtin.Slice.slicePlaces ((n : Int) - 1) (-1) (-1))) _ _ s
  have ep : Builtin.Slice.slicePlaces ((n : Int) - 1) (-1) (-1) = n := by
    unfold Builtin.Slice.slicePlaces
    simp
    omega
  rw [ep]
  exact wpAny_pure h
theorem pick_rev (xs : Array Value) : ((List.range xs.size).filterMap fun (m : Nat) => xs[(((xs.size : Nat) : Int) - 1 + (m : Int) * (-1)).toNat]?).toArray = xs.toList.reverse.toArray := by
  congr 1
  refine List.ext_getElem? fun i => ?_
  have key : ∀ n, n ≤ xs.size → (List.range n).filterMap (fun (m : Nat) => xs[(((xs.size : Nat) : Int) - 1 + (m : Int) * (-1)).toNat]?) = xs.toList.reverse.take n := by
    intro n hn
    induction n with
    | zero => rfl
    | succ n ih =>
      rw [List.range_succ, List.filterMap_append, ih (by omega)]
      have e : (((xs.size : Nat) : Int) - 1 + (n : Int) * (-1)).toNat = xs.size - 1 - n := by omega
      have hlt : xs.size - 1 - n < xs.size := by omega
      have hl : n < xs.toList.reverse.length := by simp; omega
      rw [List.take_succ_eq_append_getElem hl]
      congr 1
      simp only [List.filterMap_cons, List.filterMap_nil, e]
      rw [Array.getElem?_eq_getElem hlt]
      simp
  rw [key xs.size (Nat.le_refl _), List.take_of_length_le (by simp)]
theorem getItem_tuple_rev {t sl : Addr} {items : Array Value} {k : Tok} {Q : Value → Shared → Prop} (ht : IsTup s.heap t items) (hs : s.heap.IsSliceOf sl .none .none (.int (-1) k))
    (h : Q (.ref s.heap.objs.size) { s with heap := s.heap.push (tupObj items.toList.reverse.toArray) }) (hsz : items.size ≤ sizeLine) : wpAny (model prog w) A (getItem (.ref t) (.ref sl)) Q E s := by
  obtain ⟨ob, g1, g2, g3⟩ := id hs
  have isSl : s.TypeIs (.ref sl) "slice" := ⟨ob, g1, g2⟩
  have fits : sizeOk (.seq items.toList.reverse.toArray) := by
    show items.toList.reverse.toArray.size ≤ sizeLine
    simpa using hsz
  unfold getItem
  try with_reducible refine wpAny_holding ?_
  first | refine wpAny_bind (wpAny_pure ?_) | skip
  refine wpAny_bind (wpAny_sequenceKey ht.typeIs (by decide) ?_)
  refine wpAny_bind (wpAny_callSpecial?_slot (name := Str.ofString "__getitem__") ht.typeIs PyProof.Rows.slot_tuple_getitem (wpAny_call_entry PyProof.Rows.slot_tuple_getitem ht.typeIs entry_tuple_getitem ?_ (args_tuple_getitem _ _)))
  show wpAny _ _ (Builtin.Tuple.tupleItemsOf (.ref t) >>= _) _ _ s
  refine wpAny_bind (tupleItemsOf_ ht ?_)
  refine wpAny_bind (wpAny_typeOf isSl ?_)
  rw [if_pos (by decide)]
  refine wpAny_bind (neg_part hs ?_)
  have hno : ¬ (((((items.size : Nat) : Int) - 1) == 0 && (-1 : Int) == 1 && items.size == items.size) = true) := by
    intro q
    rw [Bool.and_eq_true, Bool.and_eq_true] at q
    exact absurd (eq_of_beq q.1.2) (by decide)
  show wpAny _ _ (if ((((items.size : Nat) : Int) - 1) == 0 && (-1 : Int) == 1 && items.size == items.size) = true then _ else _) _ _ s
  rw [if_neg hno, pick_rev]
  first
    | exact wpAny_bind (m := Builtin.Tuple.tupleExact _) (wpAny_newObj_type (wpAny_pure ⟨_, rfl, wpAny_pure h⟩) fits)
    | exact wpAny_bind (m := Builtin.Tuple.tupleExact _) (wpAny_newObj_type (wpAny_bind (wpAny_pure (wpAny_pure ⟨_, rfl, wpAny_pure h⟩))) fits)
    | exact wpAny_bind (wpAny_bind (m := Builtin.Tuple.tupleExact _) (wpAny_newObj_type (wpAny_pure (wpAny_pure ⟨_, rfl, wpAny_pure h⟩)) fits))
    | exact wpAny_bind (wpAny_bind (m := Builtin.Tuple.tupleExact _) (wpAny_newObj_type (wpAny_pure ⟨_, rfl, wpAny_pure h⟩) fits))
end
section
variable {X : Cx}
def tRevD (K : PySem.W.Frag) (te : TE) : TE := fun σ H Q => te σ H fun x H1 => ∃ a xs, x = .ref a ∧ ((SqL K H1 a xs ∧ ∀ p, H1 p = none → Q (.ref p) (upd H1 p (.lst xs.reverse))) ∨ (SqT K H1 a xs ∧ NewT xs.reverse H1 Q))
theorem pe_revD {e : Expr} {te : TE} {k : Nat} {p1 p2 p3 pos : Pos} (he : PE X e te) : PE X (.Subscript e (.Slice none none (some (.UnaryOp .USub (.Constant (.int 1) k p1) p2)) p3) pos) (tRevD X.K te) := by
  refine ⟨fun pins s σ H Q I h => Subscript_ (thn (he.run pins s σ H _ I h) fun v s1 told => ?_)⟩
  obtain ⟨x, H1, I1, r1, a, xs, rfl, hq⟩ := told
  cases r1
  have step : PO X (some (.UnaryOp .USub (.Constant (.int 1) k p1) p2)) (tPart (tUn (rU fun i => .int (-i)) (tC (.int 1)))) := po_some (pe_un un_neg pe_int)
  refine wpAny_Slice (thn (po_none.run pins s1 σ H1 (fun o H2 => o = none ∧ H2 = H1) I1 ⟨rfl, rfl⟩) fun vl s2 told2 => ?_)
  obtain ⟨_, _, I2, pl, rfl, rfl⟩ := told2
  refine thn (po_none.run pins s2 σ _ (fun o H3 => o = none ∧ H3 = _) I2 ⟨rfl, rfl⟩) fun vu s3 told3 => ?_
  obtain ⟨_, _, I3, pu, rfl, rfl⟩ := told3
  refine thn (step.run pins s3 σ _ (fun o H4 => o = some (-1) ∧ H4 = _) I3 ⟨1, rfl, -1, rfl, rfl, rfl⟩) fun vs s4 told4 => ?_
  obtain ⟨_, H4, I4, ps, rfl, rfl⟩ := told4
  have I5 : L2.Inv X pins σ H4 { s4 with heap := s4.heap.push { cls := .type "slice", data := .fields #[vl, vu, vs] } } := I4.kept (t' := s4.toks) fun b ob q => Heap.get?_push_of_some _ q
  show wpAny (model X.prog X.w) X.A (subscriptTail e (.Slice none none (some (.UnaryOp .USub (.Constant (.int 1) k p1) p2)) p3) (.ref a) (.ref s4.heap.objs.size)) (EP X pins σ Q) X.xe _
  rcases hq with ⟨hx, q⟩ | ⟨hx, q⟩
  · obtain ⟨its, r, ht, hz⟩ := I5.list hx
    have hlen := r.length
    refine tail_any (ops := [.ref a, .ref s4.heap.objs.size]) ht.isList.typeIs (PySem.slot_list_getitem.lookup) ?_ (by with_unfolding_all rfl)
    refine wpAny_getItem_list_slice ht.isList (Heap.IsSliceOf.new _ vl vu vs) pl pu ps (by decide) ?_ (by rw [List.size_toArray]; omega)
    rw [PySem.W.krv_pick]
    refine ⟨.ref _, _, I5.laid (t' := s4.toks) (o := .lst xs.reverse) (fun b ob q => Heap.get?_push_of_some _ q) (Nat.le_refl _) ?_, rfl, q _ (I5.hok.fresh (Nat.le_refl _))⟩
    exact ⟨by rw [List.length_reverse]; exact hz, _, 0, r.reverse, Heap.get?_push_size _ rfl⟩
  · obtain ⟨its, r, ht, hz⟩ := I5.tuple hx
    have hlen := r.length
    cases pl
    cases pu
    cases ps
    refine tail_any (ops := [.ref a, .ref s4.heap.objs.size]) ht.typeIs (PyProof.Rows.slot_tuple_getitem.lookup) ?_ (by with_unfolding_all rfl)
    refine getItem_tuple_rev ht (Heap.IsSliceOf.new _ _ _ _) ?_ (by rw [List.size_toArray]; omega)
    exact made_tup I5 (by simpa using r.reverse) (by rw [List.length_reverse]; exact hz) s4.toks q
end
end Mini
set_option linter.all false
set_option maxRecDepth 100000
/-! M2t: max and min of a tuple of ints; a tuple so many times. -/
namespace Mini
open PySem PySem.Spec PyProof.Rows L2
section
variable {prog : Program} {w : World} {A : Around} {E : Value → Shared → Prop} {s : Shared} {l : Addr} {xs : Array (Int × Tok)}
theorem iter_intTup {Q : Value → Shared → Prop} (hl : s.heap.IsTuple l (intItems xs))
    (h : ∀ s₂ : Shared, s₂ = { s with heap := s.heap.push { cls := .type "tuple_iterator", data := .fields #[.ref l, .int 0 0] } } →
      (s₂.heap.IsTupleIter s.heap.objs.size l 0 ∧ s₂.heap.IsTuple l (intItems xs)) → (∀ b ∈ [s.heap.objs.size, l], b < s₂.heap.objs.size) → l ≠ s.heap.objs.size → Q (.ref s.heap.objs.size) s₂) :
    wpAny (model prog w) A (pyIter (.ref l)) Q E s := by
  have hlt : l < s.heap.objs.size := by obtain ⟨_, e, _⟩ := hl; exact Heap.lt_size e
  refine wpAny_pyIter_tuple hl (h _ rfl ⟨⟨_, Heap.get?_push_size _ rfl, rfl, rfl⟩, hl.push _⟩ (fun b hb => ?_) (Nat.ne_of_lt hlt))
  show b < (s.heap.push _).objs.size
  rw [Heap.size_push]
  rcases List.mem_cons.mp hb with rfl | hb
  · exact Nat.lt_succ_self _
  · rcases List.mem_cons.mp hb with rfl | hb
    · exact Nat.lt_succ_of_lt hlt
    · cases hb
theorem old_keptT {h' : Heap} (hk : ∀ b o, b ∉ [s.heap.objs.size] → (s.heap.push { cls := .type "tuple_iterator", data := .fields #[.ref l, .int 0 0] }).get? b = some o → h'.get? b = some o) :
    ∀ b o, s.heap.get? b = some o → h'.get? b = some o := fun b o e => by
  refine hk b o (fun hm => ?_) (Heap.get?_push_of_some _ e)
  rcases List.mem_cons.mp hm with e1 | hm
  · exact absurd (e1 ▸ Heap.lt_size e) (Nat.lt_irrefl _)
  · cases hm
theorem max_intTup {Q : Value → Shared → Prop} (hh : A.handled = none) (hl : s.heap.IsTuple l (intItems xs)) (hne : 0 < xs.size)
    (h : ∀ v h' tk, (intItems xs)[argBest (fun i j => decide (numAt xs i > numAt xs j)) (xs.size - 1)]? = some v → (∀ b o, s.heap.get? b = some o → h'.get? b = some o) → Q v { s with heap := h', toks := tk }) :
    wpAny (model prog w) A (call (.builtin "max") [.ref l]) Q E s := by
  refine call_max_walk (iter_intTup hl fun s₂ e st hfp hlI => ?_)
  subst e
  refine ⟨_, _, _, _, _, _, _, rfl, Walks.tuple (A := A.in1) hh _ l hlI (intItems xs), st, hfp, by simpa [intItems] using hne, CmpOf.ints_gt (numAt xs) (fun _ _ => intItems_at), fun v h' tk hP hk => ?_⟩
  exact h v h' tk (by simpa [intItems] using hP) (old_keptT hk)
theorem min_intTup {Q : Value → Shared → Prop} (hh : A.handled = none) (hl : s.heap.IsTuple l (intItems xs)) (hne : 0 < xs.size)
    (h : ∀ v h' tk, (intItems xs)[argBest (fun i j => decide (numAt xs i < numAt xs j)) (xs.size - 1)]? = some v → (∀ b o, s.heap.get? b = some o → h'.get? b = some o) → Q v { s with heap := h', toks := tk }) :
    wpAny (model prog w) A (call (.builtin "min") [.ref l]) Q E s := by
  refine call_min_walk (iter_intTup hl fun s₂ e st hfp hlI => ?_)
  subst e
  refine ⟨_, _, _, _, _, _, _, rfl, Walks.tuple (A := A.in1) hh _ l hlI (intItems xs), st, hfp, by simpa [intItems] using hne, CmpOf.ints_lt (numAt xs) (fun _ _ => intItems_at), fun v h' tk hP hk => ?_⟩
  exact h v h' tk (by simpa [intItems] using hP) (old_keptT hk)
end
section
variable {prog : Program} {w : World} {A : Around} {E : Value → Shared → Prop} {s : Shared} {l : Addr} {its : List Value} {ns : List Int} {Q : Value → Shared → Prop}
theorem max_rawT (hh : A.handled = none) (hl : s.heap.IsTuple l its.toArray) (hi : IntsAre its ns) (hne : 0 < ns.length)
    (h : ∀ h' tk M t', (∀ b o, s.heap.get? b = some o → h'.get? b = some o) → M ∈ ns → (∀ a, a ∈ ns → a ≤ M) → Q (.int M t') { s with heap := h', toks := tk }) : wpAny (model prog w) A (call (.builtin "max") [.ref l]) Q E s := by
  obtain ⟨xs, e⟩ := hi.allInts.items
  have hn : numsOf (intItems xs).toList = ns := by rw [← e]; exact hi.numsOf
  rw [nums_intItems] at hn
  subst hn
  rw [e] at hl
  have hsz : 0 < xs.size := by simpa using hne
  refine max_intTup hh hl hsz fun v h' tk hv hk => ?_
  obtain ⟨t, rfl⟩ := intItems_at hv
  obtain ⟨h1, h2⟩ := argBest_gt (numAt xs) (xs.size - 1)
  refine h h' tk _ t hk ?_ fun a ha => ?_
  · rw [numAt_eq]; exact PySem.getD_mem (by rw [List.length_map, Array.length_toList]; omega)
  · obtain ⟨j, hj, rfl⟩ := mem_getD ha
    rw [List.length_map, Array.length_toList] at hj
    rw [← numAt_eq]; exact h2 j (by omega)
theorem min_rawT (hh : A.handled = none) (hl : s.heap.IsTuple l its.toArray) (hi : IntsAre its ns) (hne : 0 < ns.length)
    (h : ∀ h' tk M t', (∀ b o, s.heap.get? b = some o → h'.get? b = some o) → M ∈ ns → (∀ a, a ∈ ns → M ≤ a) → Q (.int M t') { s with heap := h', toks := tk }) : wpAny (model prog w) A (call (.builtin "min") [.ref l]) Q E s := by
  obtain ⟨xs, e⟩ := hi.allInts.items
  have hn : numsOf (intItems xs).toList = ns := by rw [← e]; exact hi.numsOf
  rw [nums_intItems] at hn
  subst hn
  rw [e] at hl
  have hsz : 0 < xs.size := by simpa using hne
  refine min_intTup hh hl hsz fun v h' tk hv hk => ?_
  obtain ⟨t, rfl⟩ := intItems_at hv
  obtain ⟨h1, h2⟩ := argBest_lt (numAt xs) (xs.size - 1)
  refine h h' tk _ t hk ?_ fun a ha => ?_
  · rw [numAt_eq]; exact PySem.getD_mem (by rw [List.length_map, Array.length_toList]; omega)
  · obtain ⟨j, hj, rfl⟩ := mem_getD ha
    rw [List.length_map, Array.length_toList] at hj
    rw [← numAt_eq]; exact h2 j (by omega)
end
section
variable {X : Cx}
theorem cr_maxT (hc : X.calm = true) : CallR X (.builtin "max") (fun vs H Q => ∃ (a : Addr) (ns : List Int), vs = [V.ref a] ∧ SqT X.K H a (ns.map V.int) ∧ 0 < ns.length ∧ ∀ m, m ∈ ns → (∀ y, y ∈ ns → y ≤ m) → Q (.int m) H) := by
  intro pins s σ H vs us Q I r h
  obtain ⟨a, ns, rfl, hs, hne, q⟩ := h
  obtain ⟨its, rv, hl, _⟩ := I.tuple hs
  rw [Vals.ref1 r]
  exact max_rawT (I.ok.hd hc) hl rv.ints hne fun h' tk m t' hk h1 h2 => ⟨.int _, H, I.kept hk, ⟨_, rfl⟩, q m h1 h2⟩
theorem cr_minT (hc : X.calm = true) : CallR X (.builtin "min") (fun vs H Q => ∃ (a : Addr) (ns : List Int), vs = [V.ref a] ∧ SqT X.K H a (ns.map V.int) ∧ 0 < ns.length ∧ ∀ m, m ∈ ns → (∀ y, y ∈ ns → m ≤ y) → Q (.int m) H) := by
  intro pins s σ H vs us Q I r h
  obtain ⟨a, ns, rfl, hs, hne, q⟩ := h
  obtain ⟨its, rv, hl, _⟩ := I.tuple hs
  rw [Vals.ref1 r]
  exact min_rawT (I.ok.hd hc) hl rv.ints hne fun h' tk m t' hk h1 h2 => ⟨.int _, H, I.kept hk, ⟨_, rfl⟩, q m h1 h2⟩

theorem tuple_mul1 (l : Addr) (items : Array Value) (n : Nat) (dd : Option Addr) (sl : Array (Option Value)) (u : Tok) :
    Meets (Builtin.«tuple.__mul__» ⟨[.ref l, .int 1 u], []⟩) (fun _ R s => s.heap.get? l = some { cls := .type "tuple", dict := dd, data := .seq items n, slots := sl } ∧
      R (.ok (.ret (Value.ref l))) s) :=
  .of_wp fun prog w A R s h => by
    obtain ⟨hp, g, d, tk, os⟩ := s
    obtain ⟨hl, h⟩ := h
    have f1 := AutoSeq1.idx_int
    wp_walk using wpAny_loadPart' hl
    repeat (first
      | (refine wpAny_ite_false (decide_eq_false (by decide)) ?_; wp_walk using wpAny_loadPart' hl)
      | (refine wpAny_ite_true (decide_eq_true (by rw [show ((1 : Int) == 1) = true from rfl, Bool.or_true])) ?_; wp_walk using wpAny_loadPart' hl))
    exact ⟨_, rfl, h⟩
theorem op_rep1 : OpR X (binaryOp .Mult) (fun x y H Q => ∃ l xs, x = V.ref l ∧ y = .int 1 ∧ SqT X.K H l xs ∧ Q (.ref l) H) := by
  intro pins s σ H x y v u Q I rx ry h
  obtain ⟨l, xs, rfl, rfl, hT, q⟩ := h
  cases rx
  obtain ⟨t, rfl⟩ := ry
  obtain ⟨its, r, ⟨⟨cls, dd, data, sl⟩, ho, hc, n, hd⟩, hs⟩ := I.tuple hT
  simp only at hc hd
  subst hc hd
  exact wpAny_binaryOp_repeat_ref (T := "tuple") (U := "int") (by decide) ⟨_, ho, rfl⟩ (fun s' => typeIs_int s' 1 t) noFill_tuple_mul F.fills_int_mul F.slot_int_rmul repeat_tuple F.slot_int_index.lookup
    (call_meets F.slot_int_rmul (typeIs_int s 1 t) F.entry_int_rmul (F.args_int_rmul_2 _ _) (int_rmul_tuple 1 t l its.toArray n dd sl)
      ⟨ho, rfl, ⟨_, ho, rfl⟩, call_meets F.slot_tuple_mul ⟨_, ho, rfl⟩ F.entry_tuple_mul (F.args_tuple_mul_2 _ _) (tuple_mul1 l its.toArray n dd sl t) ⟨ho, ⟨.ref l, H, I, rfl, q⟩⟩⟩)
/-- a new tuple: so many times -/
theorem op_repF : OpR X (binaryOp .Mult) (fun x y H Q => ∃ l k xs, x = V.ref l ∧ y = .int k ∧ SqT X.K H l xs ∧ xs ≠ [] ∧ 2 ≤ k ∧ k ≤ 1000 ∧ xs.length ≤ 1000 ∧ NewT (List.replicate k.toNat xs).flatten H Q) := by
  intro pins s σ H x y v u Q I rx ry h
  obtain ⟨l, k, xs, rfl, rfl, hT, hne, h1, h2, hz, q⟩ := h
  cases rx
  obtain ⟨t, rfl⟩ := ry
  obtain ⟨its, r, ⟨⟨cls, dd, data, sl⟩, ho, hc, n, hd⟩, hs⟩ := I.tuple hT
  simp only at hc hd
  subst hc hd
  have hle : its.length = xs.length := r.length.symm
  have hk : ∃ m : Nat, k = m ∧ 2 ≤ m ∧ m ≤ 1000 := ⟨k.toNat, by omega, by omega, by omega⟩
  obtain ⟨m, rfl, hm1, hm2⟩ := hk
  have hi : its.toArray.isEmpty = false := by
    cases its with
    | nil => exact absurd (List.eq_nil_of_length_eq_zero hle.symm) hne
    | cons a b => rfl
  have hp : m * xs.length ≤ 1000 * 1000 := Nat.mul_le_mul hm2 hz
  have hpI : ((its.toArray.size : Nat) : Int) * (m : Int) ≤ 1000000 := by
    rw [List.size_toArray, hle, ← Int.natCast_mul, Nat.mul_comm]
    omega
  have fl : (List.replicate m xs).flatten.length ≤ sizeLine := by rw [PyProof.Rows.lm_len_rep_flat, sizeLine_eq]; omega
  have fl2 : (List.replicate m its).flatten.length ≤ sizeLine := by rw [PyProof.Rows.lm_len_rep_flat, hle, sizeLine_eq]; omega
  refine wpAny_binaryOp_repeat_ref (T := "tuple") (U := "int") (by decide) ⟨_, ho, rfl⟩ (fun s' => typeIs_int s' m t) noFill_tuple_mul F.fills_int_mul F.slot_int_rmul repeat_tuple F.slot_int_index.lookup
    (call_meets F.slot_int_rmul (typeIs_int s m t) F.entry_int_rmul (F.args_int_rmul_2 _ _) (int_rmul_tuple m t l its.toArray n dd sl)
      ⟨ho, rfl, ⟨_, ho, rfl⟩, call_meets F.slot_tuple_mul ⟨_, ho, rfl⟩ F.entry_tuple_mul (F.args_tuple_mul_2 _ _) (tuple_mulW l its.toArray n dd sl m t
        (by rw [decide_eq_false (by omega), decide_eq_false (by omega)]; rfl) (by rw [hi, Bool.false_or]; exact beq_eq_false_iff_ne.mpr (by omega)) (by rw [hi, Bool.or_false]; exact decide_eq_false (by omega)) (by omega)
        (by unfold Builtin.Tuple.tupleTooMany; rw [sizeLine_eq]; exact decide_eq_false (by omega)) (by rw [size_rep, List.size_toArray, Int.toNat_natCast]; exact fl2)) ⟨ho, ?_⟩⟩)
  rw [size_rep, Int.toNat_natCast]
  exact made_tup I (r.rep m) fl s.toks (by rw [Int.toNat_natCast] at q; exact q)
end
end Mini
set_option linter.all false
set_option maxRecDepth 10000
/-! M3: operations, by values. -/
namespace Mini
open PySem PySem.Spec L2

/-- what an operation tells: the old stands, the new is new -/
def Res (K : PySem.W.Frag) (Hf H : Hp) (r : D) (v : V) (H' : Hp) : Prop :=
  ∃ Hf' f, (∀ a o, H a = some o → H' a = some o) ∧ (∀ a o, Hf a = some o → Hf' a = some o) ∧ (∀ a o, Hf' a = some o → H' a = some o) ∧
    (∀ a o, Hf' a = some o → Hf a = some o ∨ H a = none ∨ ∃ vs, H a = some (.tup vs)) ∧ f.Nodup ∧ (∀ a ∈ f, H a = none ∧ Hf' a = none) ∧ RV K Hf' H' r v f
abbrev Sub (Hf H : Hp) : Prop := ∀ a o, Hf a = some o → H a = some o
/-- a value that is read -/
def Opd (K : PySem.W.Frag) (Hf H : Hp) (d : D) (x : V) : Prop := ∃ f, RV K Hf H d x f

section
variable {K : PySem.W.Frag} {Hf H : Hp}
theorem Sub.none {a : Addr} (s : Sub Hf H) (h : H a = none) : Hf a = none := by
  cases e : Hf a with
  | none => rfl
  | some o => rw [s a o e] at h; cases h
theorem upd_sub {a : Addr} {o : HO} (h : H a = none) : Sub H (upd H a o) := fun b u e => by rw [upd_ne (ne_of_none e h)]; exact e
/-- what is already there and never changes -/
theorem Res.same {r : D} {v : V} (s : Sub Hf H) (h : RF K Hf r v) : Res K Hf H r v H :=
  ⟨Hf, [], fun _ _ e => e, fun _ _ e => e, s, fun _ _ e => .inl e, List.nodup_nil, (fun a ha => nomatch ha), RV.of_RF h⟩
theorem Res.int {i : Int} (s : Sub Hf H) : Res K Hf H (.int i) (.int i) H := Res.same s (by simp only [RF])
theorem Res.bl {i : Bool} (s : Sub Hf H) : Res K Hf H (.bl i) (.bl i) H := Res.same s (by simp only [RF])
theorem Res.str {i : Str} (s : Sub Hf H) : Res K Hf H (.str i) (.str i) H := Res.same s (by simp only [RF])
theorem Res.non (s : Sub Hf H) : Res K Hf H .non .non H := Res.same s (by simp only [RF])
/-- a new list of things that never change -/
theorem Res.lst {ds : List D} {vs : List V} {p : Addr} (s : Sub Hf H) (hp : H p = none) (h : RFs K Hf ds vs) : Res K Hf H (.lst true ds) (.ref p) (upd H p (.lst vs)) := by
  refine ⟨Hf, [p], upd_sub hp, fun _ _ e => e, fun a o e => upd_sub hp a o (s a o e), fun _ _ e => .inl e, by simp, fun a ha => ?_, ?_⟩
  · rw [List.mem_singleton.mp ha]; exact ⟨hp, s.none hp⟩
  · simp only [RV]
    exact .inr ⟨by simp, p, vs, [], rfl, rfl, upd_same, RVs.of_RFs h⟩
/-- something new that stands for ever -/
theorem Res.fresh {r : D} {v : V} {p : Addr} {o : HO} (s : Sub Hf H) (hp : H p = none) (h : RF K (upd Hf p o) r v) : Res K Hf H r v (upd H p o) := by
  have hn := s.none hp
  refine ⟨upd Hf p o, [], upd_sub hp, upd_sub hn, fun a u e => ?_, fun a u e => ?_, List.nodup_nil, (fun a ha => nomatch ha), RV.of_RF h⟩
  · by_cases ha : a = p
    · subst ha; rw [upd_same] at e ⊢; exact e
    · rw [upd_ne ha] at e ⊢; exact s a u e
  · by_cases ha : a = p
    · subst ha; exact .inr (.inl hp)
    · rw [upd_ne ha] at e; exact .inl e
/-- a new tuple -/
theorem Res.tup {ds : List D} {vs : List V} {p : Addr} {o : Obj} (s : Sub Hf H) (hp : H p = none) (ho : o.dict = none) (h : RFs K Hf ds vs) : Res K Hf H (.tup ds) (.ref p) (upd H p (.frz o (.tup vs))) := by
  refine Res.fresh s hp ?_
  simp only [RF]
  exact ⟨p, vs, rfl, ⟨o, upd_same, ho⟩, RFs.ext (.of (upd_sub (s.none hp))) _ _ h⟩
theorem Res.raw {ds : List D} {vs : List V} {p : Addr} (s : Sub Hf H) (hp : H p = none) (h : RFs K Hf ds vs) : Res K Hf H (.raw ds) (.ref p) (upd H p (.tup vs)) := by
  refine Res.fresh s hp ?_
  simp only [RF]
  exact ⟨p, vs, rfl, upd_same, RFs.ext (.of (upd_sub (s.none hp))) _ _ h⟩

theorem Opd.int {i : Int} {x : V} (h : Opd K Hf H (.int i) x) : x = .int i := by obtain ⟨f, h⟩ := h; simpa only [RV, RF] using h.2
theorem Opd.bl {i : Bool} {x : V} (h : Opd K Hf H (.bl i) x) : x = .bl i := by obtain ⟨f, h⟩ := h; simpa only [RV, RF] using h.2
theorem Opd.str {i : Str} {x : V} (h : Opd K Hf H (.str i) x) : x = .str i := by obtain ⟨f, h⟩ := h; simpa only [RV, RF] using h.2
theorem Opd.non {x : V} (h : Opd K Hf H .non x) : x = .non := by obtain ⟨f, h⟩ := h; simpa only [RV, RF] using h.2
theorem Opd.tup {xs : List D} {x : V} (h : Opd K Hf H (.tup xs) x) : ∃ a vs, x = .ref a ∧ TupAt Hf a vs ∧ RFs K Hf xs vs := by
  obtain ⟨f, h⟩ := h
  simpa only [RV, RF] using h.2
theorem Opd.raw {xs : List D} {x : V} (h : Opd K Hf H (.raw xs) x) : ∃ a vs, x = .ref a ∧ Hf a = some (.tup vs) ∧ RFs K Hf xs vs := by
  obtain ⟨f, h⟩ := h
  simpa only [RV, RF] using h.2
theorem RVs.length {Hf H : Hp} : ∀ {ds : List D} {vs : List V} {f : List Addr}, RVs K Hf H ds vs f → vs.length = ds.length
  | [], vs, f, h => by simp only [RVs] at h; simp [h.1]
  | d :: ds, vs, f, h => by
    simp only [RVs] at h
    obtain ⟨v, r, f1, f2, rfl, _, _, h⟩ := h
    simp [RVs.length h]
theorem RVs.get {Hf H : Hp} : ∀ {ds : List D} {vs : List V} {f : List Addr} {i : Nat} {d : D}, RVs K Hf H ds vs f → ds[i]? = some d → ∃ v g, vs[i]? = some v ∧ RV K Hf H d v g
  | [], vs, f, i, d, h, e => by simp at e
  | x :: ds, vs, f, i, d, h, e => by
    simp only [RVs] at h
    obtain ⟨v, r, f1, f2, rfl, _, h1, h2⟩ := h
    cases i with
    | zero => simp at e; subst e; exact ⟨v, f1, rfl, h1⟩
    | succ i =>
      obtain ⟨w, g, e1, e2⟩ := RVs.get (i := i) h2 (by simpa using e)
      exact ⟨w, g, by simpa using e1, e2⟩
theorem Opd.lst {m : Bool} {xs : List D} {x : V} (s : Sub Hf H) (h : Opd K Hf H (.lst m xs) x) : ∃ a vs, x = .ref a ∧ Rd H a (.lst vs) ∧ vs.length = xs.length ∧ (D.pures xs = true → RFs K Hf xs vs) ∧
    (∀ (i : Nat) (d : D), xs[i]? = some d → ∃ v, vs[i]? = some v ∧ Opd K Hf H d v) := by
  obtain ⟨f, h⟩ := h
  simp only [RV] at h
  rcases h with ⟨_, _, h⟩ | ⟨_, a, vs, g, e1, _, e3, e4⟩
  · simp only [RF] at h
    obtain ⟨_, a, vs, e1, e2, e3⟩ := h
    exact ⟨a, vs, e1, (Ext.of s).lst _ _ e2, e3.length, fun _ => e3, fun i d e => let ⟨v, h1, h2⟩ := e3.get e; ⟨v, h1, [], RV.of_RF h2⟩⟩
  · exact ⟨a, vs, e1, .inl e3, e4.length, fun hp => ((RVs.of_pures hp).mp e4).2, fun i d e => let ⟨v, g, h1, h2⟩ := e4.get e; ⟨v, h1, g, h2⟩⟩
theorem Opd.dK {m : Bool} {ks : List Key} {ds : List D} {x : V} (s : Sub Hf H) (h : Opd K Hf H (.dK m ks ds) x) : ∃ a kvs, x = .ref a ∧ Rd H a (.dK kvs) ∧ kvs.map (·.1) = ks ∧
    (∀ (i : Nat) (d : D), ds[i]? = some d → ∃ v, (kvs.map (·.2))[i]? = some v ∧ Opd K Hf H d v) ∧ ds.length = kvs.length := by
  obtain ⟨f, h⟩ := h
  simp only [RV] at h
  rcases h with ⟨_, _, h⟩ | ⟨_, a, vs, g, e1, _, e3, e5, e4⟩
  · simp only [RF] at h
    obtain ⟨_, a, vs, e1, e2, e4, e3⟩ := h
    exact ⟨a, vs, e1, (Ext.of s).dK _ _ e2, e4, fun i d e => let ⟨v, h1, h2⟩ := e3.get e; ⟨v, h1, [], RV.of_RF h2⟩, by have := e3.length; simpa using this.symm⟩
  · exact ⟨a, vs, e1, .inl e3, e5, fun i d e => let ⟨v, g, h1, h2⟩ := e4.get e; ⟨v, h1, g, h2⟩, by have := e4.length; simpa using this.symm⟩
theorem Opd.dT {m : Bool} {ks : List (List Key)} {ds : List D} {x : V} (s : Sub Hf H) (h : Opd K Hf H (.dT m ks ds) x) : ∃ a kvs, x = .ref a ∧ Rd H a (.dT kvs) ∧ kvs.map (·.1) = ks ∧
    (∀ (i : Nat) (d : D), ds[i]? = some d → ∃ v, (kvs.map (·.2))[i]? = some v ∧ Opd K Hf H d v) ∧ ds.length = kvs.length := by
  obtain ⟨f, h⟩ := h
  simp only [RV] at h
  rcases h with ⟨_, _, h⟩ | ⟨_, a, vs, g, e1, _, e3, e5, e4⟩
  · simp only [RF] at h
    obtain ⟨_, a, vs, e1, e2, e4, e3⟩ := h
    exact ⟨a, vs, e1, (Ext.of s).dT _ _ e2, e4, fun i d e => let ⟨v, h1, h2⟩ := e3.get e; ⟨v, h1, [], RV.of_RF h2⟩, by have := e3.length; simpa using this.symm⟩
  · exact ⟨a, vs, e1, .inl e3, e5, fun i d e => let ⟨v, g, h1, h2⟩ := e4.get e; ⟨v, h1, g, h2⟩, by have := e4.length; simpa using this.symm⟩

theorem RFs.ints : ∀ {ds : List D} {vs : List V} {ns : List Int}, RFs K Hf ds vs → intsOf ds = some ns → vs = ns.map V.int
  | [], vs, ns, h, e => by simp only [RFs] at h; simp only [intsOf, Option.some.injEq] at e; subst h; subst e; rfl
  | d :: ds, vs, ns, h, e => by
    simp only [RFs] at h
    obtain ⟨v, r, rfl, h1, h2⟩ := h
    cases d <;> simp only [intsOf] at e <;> try cases e
    rename_i i
    cases q : intsOf ds with
    | none => rw [q] at e; cases e
    | some ms =>
      rw [q] at e
      simp only [Option.map_some, Option.some.injEq] at e
      subst e
      simp only [RF] at h1
      rw [h1, RFs.ints h2 q]; rfl
theorem RFs.of_ints (Hf : Hp) : ∀ ns : List Int, RFs K Hf (ns.map D.int) (ns.map V.int)
  | [] => by simp [RFs]
  | n :: ns => by simp only [List.map_cons, RFs]; exact ⟨_, _, rfl, by simp only [RF], RFs.of_ints Hf ns⟩
theorem pures_of_intsOf : ∀ {ds : List D} {ns : List Int}, intsOf ds = some ns → D.pures ds = true
  | [], _, _ => rfl
  | d :: ds, ns, e => by
    cases d <;> simp only [intsOf] at e <;> try cases e
    cases q : intsOf ds with
    | none => rw [q] at e; cases e
    | some ms => rw [D.pures_cons, pures_of_intsOf q]; rfl
theorem RFs.bools : ∀ {ds : List D} {vs : List V} {ns : List Bool}, RFs K Hf ds vs → boolsOf ds = some ns → vs = ns.map V.bl
  | [], vs, ns, h, e => by simp only [RFs] at h; simp only [boolsOf, Option.some.injEq] at e; subst h; subst e; rfl
  | d :: ds, vs, ns, h, e => by
    simp only [RFs] at h
    obtain ⟨v, r, rfl, h1, h2⟩ := h
    cases d <;> simp only [boolsOf] at e <;> try cases e
    rename_i i
    cases q : boolsOf ds with
    | none => rw [q] at e; cases e
    | some ms =>
      rw [q] at e
      simp only [Option.map_some, Option.some.injEq] at e
      subst e
      simp only [RF] at h1
      rw [h1, RFs.bools h2 q]; rfl
theorem pures_of_boolsOf : ∀ {ds : List D} {ns : List Bool}, boolsOf ds = some ns → D.pures ds = true
  | [], _, _ => rfl
  | d :: ds, ns, e => by
    cases d <;> simp only [boolsOf] at e <;> try cases e
    cases q : boolsOf ds with
    | none => rw [q] at e; cases e
    | some ms => rw [D.pures_cons, pures_of_boolsOf q]; rfl
end

/-! ### data as the library's own plain data -/
def RdSq (H : Hp) (K : PySem.W.Frag) : Prop := True
mutual
/-- no dict, no script within: the layer's own reading of data -/
theorem dp_of {K : PySem.W.Frag} {Hf H : Hp} (s : Sub Hf H) : ∀ (d : D) (v : V) (f : List Addr), RV K Hf H d v f → d.py.plain = true → Dp K H v d.py
  | .non, v, f, h, c => by simp only [RV, RF] at h; rw [h.2]; simp only [D.py]; exact .non
  | .bl b, v, f, h, c => by simp only [RV, RF] at h; rw [h.2]; simp only [D.py]; exact .bl b
  | .int b, v, f, h, c => by simp only [RV, RF] at h; rw [h.2]; simp only [D.py]; exact .int b
  | .str b, v, f, h, c => by simp only [RV, RF] at h; rw [h.2]; simp only [D.py]; exact .str b
  | .scr b, v, f, h, c => by simp [D.py, badPy, PyData.plain, PyData.plainAll] at c
  | .dK m ks vs, v, f, h, c => by simp only [D.py, PyData.plain] at c; cases c
  | .dT m ks vs, v, f, h, c => by simp only [D.py, PyData.plain] at c; cases c
  | .tup xs, v, f, h, c => by
    simp only [RV, RF] at h
    obtain ⟨_, a, vs, rfl, e2, e3⟩ := h
    simp only [D.py, PyData.plain] at c ⊢
    exact .tup (e2.sq s) (dps_of s xs vs [] (RVs.of_RFs e3) c)
  | .raw xs, v, f, h, c => by
    simp only [RV, RF] at h
    obtain ⟨_, a, vs, rfl, e2, e3⟩ := h
    simp only [D.py, PyData.plain] at c ⊢
    exact .tup (.inl (.inl (s _ _ e2))) (dps_of s xs vs [] (RVs.of_RFs e3) c)
  | .lst m xs, v, f, h, c => by
    simp only [D.py, PyData.plain] at c ⊢
    simp only [RV] at h
    rcases h with ⟨_, _, h⟩ | ⟨_, a, vs, g, rfl, _, e3, e4⟩
    · simp only [RF] at h
      obtain ⟨_, a, vs, rfl, e2, e3⟩ := h
      exact .lst (.inl ((Ext.of s).lst _ _ e2)) (dps_of s xs vs [] (RVs.of_RFs e3) c)
    · exact .lst (.inl (.inl e3)) (dps_of s xs vs g e4 c)
theorem dps_of {K : PySem.W.Frag} {Hf H : Hp} (s : Sub Hf H) : ∀ (ds : List D) (vs : List V) (f : List Addr), RVs K Hf H ds vs f → PyData.plainAll (D.pys ds) = true → DpAll K H vs (D.pys ds)
  | [], vs, f, h, c => by simp only [RVs] at h; rw [h.1]; simp only [D.pys]; exact .nil
  | d :: ds, vs, f, h, c => by
    simp only [RVs] at h
    obtain ⟨v, r, f1, f2, rfl, _, h1, h2⟩ := h
    simp only [D.pys, PyData.plainAll, Bool.and_eq_true] at c ⊢
    exact .cons (dp_of s d v f1 h1 c.1) (dps_of s ds r f2 h2 c.2)
end

/-! ### operators -/
def rOp (K : PySem.W.Frag) (g : D → D → Option D) : R2 := fun x y H Q => ∃ Hf d e r, Sub Hf H ∧ Opd K Hf H d x ∧ Opd K Hf H e y ∧ g d e = some r ∧ ∀ v H', Res K Hf H r v H' → Q v H'
section
variable {X : Cx}
theorem inv_lstR {pins : List (Addr × Obj)} {σ : St} {H : Hp} {s : Shared} {l : Addr} {xs : List V} (I : Inv X pins σ H s) (h : Rd H l (.lst xs)) :
    xs.length ≤ sizeLine ∧ ∃ (its : List Value) (n : Nat), Vals xs its ∧ xs.length = its.length ∧ s.heap.get? l = some { cls := .type "list", data := .seq its.toArray n } := by
  obtain ⟨z, its, n, r, e⟩ := h.ok I.hok
  exact ⟨z, its, n, r, r.length, e⟩
theorem op_catR : OpR X (binaryOp .Add) (fun x y H Q => ∃ l b xs zs, x = .ref l ∧ y = .ref b ∧ Rd H l (.lst xs) ∧ Rd H b (.lst zs) ∧ xs.length + zs.length ≤ sizeLine ∧ ∀ p, H p = none → Q (.ref p) (upd H p (.lst (xs ++ zs)))) := by
  intro pins s σ H x y v u Q I rx ry h
  obtain ⟨l, b, xs, zs, rfl, rfl, hH, hB, hz, q⟩ := h
  cases rx
  cases ry
  obtain ⟨z, its, n, r, hl, e⟩ := inv_lstR I hH
  obtain ⟨z2, its2, n2, r2, hl2, e2⟩ := inv_lstR I hB
  refine PySem.P.add_list e e2 ?_ (by rw [List.size_toArray, List.size_toArray]; omega)
  have ea : its.toArray ++ its2.toArray = (its ++ its2).toArray := by simp
  rw [ea]
  exact ⟨.ref _, _, I.lnew (t' := s.toks) (r.append r2) (by rw [List.length_append]; omega), rfl, q _ I.fresh⟩
theorem op_repR : OpR X (binaryOp .Mult) (fun x y H Q => ∃ l k xs, x = .ref l ∧ y = .int k ∧ Rd H l (.lst xs) ∧ -(2 ^ 63) ≤ k ∧ k < 2 ^ 63 ∧ xs.length * k.toNat ≤ sizeLine ∧
    ∀ p, H p = none → Q (.ref p) (upd H p (.lst (List.replicate k.toNat xs).flatten))) := by
  intro pins s σ H x y v u Q I rx ry h
  obtain ⟨l, k, xs, rfl, rfl, hH, h1, h2, hz, q⟩ := h
  cases rx
  obtain ⟨t, rfl⟩ := ry
  obtain ⟨z, its, n, r, hl, e⟩ := inv_lstR I hH
  have hlen : its.toArray.size * k.toNat ≤ sizeLine := by rw [List.size_toArray, ← hl]; exact hz
  have hcap : ¬ its.toArray.size * k.toNat > (2 ^ 63 - 1) / 8 := by
    have : (sizeLine : Nat) ≤ (2 ^ 63 - 1) / 8 := by decide
    omega
  have hfit : ¬ (!Builtin.List.listFitsIndex k) = true := by
    rw [fitsIndex_both h1 h2]
    exact Bool.false_ne_true
  have hlong : ¬ Builtin.List.listTooLong (its.toArray.size * k.toNat) = true := by
    rw [notLongL hlen]
    exact Bool.false_ne_true
  have hnew : List.foldl (fun x1 x2 => x1 ++ x2) #[] (List.replicate (if its.toArray.isEmpty = true then 0 else k.toNat) its.toArray) = (List.replicate k.toNat its).flatten.toArray := by
    have f0 : ∀ m : Nat, List.foldl (fun x1 x2 => x1 ++ x2) #[] (List.replicate m its.toArray) = (List.replicate m its).flatten.toArray := fun m => by
      have := foldl_rep its m []
      rw [List.nil_append] at this
      exact this
    rw [f0]
    cases its with
    | nil => simp
    | cons a r' => rw [if_neg (by simp)]
  refine wpAny_binaryOp_repeat_ref (T := "list") (U := "int") (by decide) ⟨_, e, rfl⟩ (fun s' => typeIs_int s' k t) noFill_list_mul PySem.F.fills_int_mul PySem.F.slot_int_rmul repeat_list PySem.F.slot_int_index.lookup
    (call_meets PySem.F.slot_int_rmul (typeIs_int s k t) PySem.F.entry_int_rmul (PySem.F.args_int_rmul_2 _ _) (int___rmul___int_list k t l its.toArray n)
      ⟨e, rfl, ⟨_, e, rfl⟩, call_meets PySem.F.slot_list_mul ⟨_, e, rfl⟩ PySem.F.entry_list_mul (PySem.F.args_list_mul_2 _ _) (AutoListH.list___mul___list_int_3 l its.toArray n k t hfit hcap hlong) ⟨e, ?_⟩⟩)
  rw [hnew]
  exact ⟨.ref _, _, I.lnew (t' := s.toks) (r.rep k.toNat) (by rw [PyProof.Rows.lm_len_rep_flat, Nat.mul_comm]; exact hz), rfl, q _ I.fresh⟩

theorem mulOk_c {i j : Int} (h : mulOk i j = true) : CMul i j := by
  unfold mulOk at h
  have z := of_decide_eq_true h
  exact z
theorem sub_int_bool : isSubtype (.type "int") (.type "bool") = pure false := by kernel_rfl
theorem gives_add_bi (p : Bool) (j : Int) (t : Tok) : Gives (Builtin.«int.__add__» ⟨[.bool p, .int j t], []⟩) (.int ((if p = true then (1 : Int) else 0) + j)) :=
  .of_wp fun M A E s Q h => by obtain ⟨hp, g, d, tk, os⟩ := s; wp_walk; exact ⟨_, rfl, h⟩
theorem gives_sub_bi (p : Bool) (j : Int) (t : Tok) : Gives (Builtin.«int.__sub__» ⟨[.bool p, .int j t], []⟩) (.int ((if p = true then (1 : Int) else 0) - j)) :=
  .of_wp fun M A E s Q h => by obtain ⟨hp, g, d, tk, os⟩ := s; wp_walk; exact ⟨_, rfl, h⟩
theorem op_addB : OpR X (binaryOp .Add) fun x y H Q => ∃ p j, x = .bl p ∧ y = .int j ∧ Q (.int (b2i p + j)) H := by
  intro pins s σ H x y v u Q I rx ry h
  obtain ⟨p, j, rfl, rfl, q⟩ := h
  cases rx
  obtain ⟨t, rfl⟩ := ry
  exact binaryOp_left_gives (op := .Add) (T := "bool") (U := "int") (by decide) (PyProof.Rows.typeIs_bool' s p) (fun s' => typeIs_int s' j t) F.fills_bool_add F.fills_int_add sub_int_bool F.slot_bool_add F.slot_int_radd F.entry_int_add (F.args_int_add_2 _ _)
    (gives_add_bi p j t) trivial ⟨.int _, H, I.tok _, ⟨_, rfl⟩, q⟩
theorem op_subB : OpR X (binaryOp .Sub) fun x y H Q => ∃ p j, x = .bl p ∧ y = .int j ∧ Q (.int (b2i p - j)) H := by
  intro pins s σ H x y v u Q I rx ry h
  obtain ⟨p, j, rfl, rfl, q⟩ := h
  cases rx
  obtain ⟨t, rfl⟩ := ry
  exact binaryOp_left_gives (op := .Sub) (T := "bool") (U := "int") (by decide) (PyProof.Rows.typeIs_bool' s p) (fun s' => typeIs_int s' j t) F.fills_bool_sub F.fills_int_sub sub_int_bool F.slot_bool_sub F.slot_int_rsub F.entry_int_sub (F.args_int_sub_2 _ _)
    (gives_sub_bi p j t) trivial ⟨.int _, H, I.tok _, ⟨_, rfl⟩, q⟩
theorem op_bin {op : Operator} : OpR X (binaryOp op) (rOp X.K (binD op)) := by
  intro pins s σ H x y v u Q I rx ry h
  obtain ⟨Hf, d, e, r, sb, hd, he, hg, q⟩ := h
  unfold binD at hg
  split at hg
  · cases hg; exact op_addB pins s σ H x y v u Q I rx ry ⟨_, _, hd.bl, he.int, q _ _ (.int sb)⟩
  · cases hg; exact op_subB pins s σ H x y v u Q I rx ry ⟨_, _, hd.bl, he.int, q _ _ (.int sb)⟩
  · cases hg; exact op_add pins s σ H x y v u Q I rx ry ⟨_, _, hd.int, he.int, q _ _ (.int sb)⟩
  · cases hg; exact op_sub pins s σ H x y v u Q I rx ry ⟨_, _, hd.int, he.int, q _ _ (.int sb)⟩
  · rename_i i j
    split at hg
    · rename_i hm
      cases hg
      exact op_mul pins s σ H x y v u Q I rx ry ⟨_, _, hd.int, he.int, mulOk_c hm, q _ _ (.int sb)⟩
    · cases hg
  · split at hg
    · rename_i hm
      cases hg
      exact op_fdiv pins s σ H x y v u Q I rx ry ⟨_, _, hd.int, he.int, hm, q _ _ (.int sb)⟩
    · cases hg
  · split at hg
    · rename_i hm
      cases hg
      exact op_mod pins s σ H x y v u Q I rx ry ⟨_, _, hd.int, he.int, hm, q _ _ (.int sb)⟩
    · cases hg
  · split at hg
    · rename_i hm
      cases hg
      exact op_pow pins s σ H x y v u Q I rx ry ⟨_, _, hd.int, he.int, hm, q _ _ (.int sb)⟩
    · cases hg
  · split at hg
    · rename_i hm
      cases hg
      obtain ⟨a, vs, rfl, h1, h2, h3, _⟩ := hd.lst sb
      obtain ⟨b, ws, rfl, k1, k2, k3, _⟩ := he.lst sb
      exact op_catR pins s σ H _ _ v u Q I rx ry ⟨a, b, vs, ws, rfl, rfl, h1, k1, by rw [h2, k2]; exact hm.1, fun p hp => q _ _ (.lst sb hp (RFs.app (h3 hm.2.1) (k3 hm.2.2)))⟩
    · cases hg
  · split at hg
    · rename_i hm
      cases hg
      obtain ⟨a, vs, rfl, h1, h2⟩ := hd.tup
      obtain ⟨b, ws, rfl, k1, k2⟩ := he.tup
      refine op_catF pins s σ H _ _ v u Q I rx ry ⟨a, b, vs, ws, rfl, rfl, h1.sq sb, k1.sq sb, by rw [h2.length, k2.length]; exact hm, fun z => ?_, fun _ z => ?_, fun _ _ p o hp ho => q _ _ (.tup sb hp ho (RFs.app h2 k2))⟩
      · subst z
        refine q _ _ (.same sb ?_)
        have e0 := h2.length
        rename_i xs ys
        cases xs with
        | nil => simp only [RF, List.nil_append]; exact ⟨b, ws, rfl, k1, k2⟩
        | cons _ _ => simp at e0
      · subst z
        refine q _ _ (.same sb ?_)
        have e0 := k2.length
        rename_i xs ys _
        cases ys with
        | nil => simp only [RF, List.append_nil]; exact ⟨a, vs, rfl, h1, h2⟩
        | cons _ _ => simp at e0
    · cases hg
  · split at hg
    · rename_i hm
      cases hg
      obtain ⟨a, vs, rfl, h1, h2, h3, _⟩ := hd.lst sb
      exact op_repR pins s σ H _ _ v u Q I rx ry ⟨a, _, vs, rfl, he.int, h1, hm.1, hm.2.1, by rw [h2]; exact hm.2.2.1, fun p hp => q _ _ (.lst sb hp (RFs.rep (h3 hm.2.2.2) _))⟩
    · cases hg
  · rename_i xs k
    split at hg
    · rename_i hm
      cases hg
      obtain ⟨a, vs, rfl, h1, h2⟩ := hd.tup
      by_cases hk : k = 1
      · subst hk
        refine op_rep1 pins s σ H _ _ v u Q I rx ry ⟨a, vs, rfl, he.int, h1.sq sb, ?_⟩
        have e1 : (List.replicate (Int.toNat 1) xs).flatten = xs := by rw [show Int.toNat 1 = 1 from rfl]; simp
        rw [e1] at q
        refine q _ _ (.same sb ?_)
        simp only [RF]
        exact ⟨a, vs, rfl, h1, h2⟩
      · refine op_repF pins s σ H _ _ v u Q I rx ry ⟨a, k, vs, rfl, he.int, h1.sq sb, fun z => ?_, by omega, hm.2.2.1, by rw [h2.length]; exact hm.2.2.2, fun p o hp ho => q _ _ (.tup sb hp ho (RFs.rep h2 _))⟩
        have e0 := h2.length
        rw [z] at e0
        cases xs with
        | nil => exact absurd hm.1 (by simp)
        | cons _ _ => simp at e0
    · cases hg
  · cases hg
end
end Mini
set_option linter.all false
set_option maxRecDepth 10000
/-! M3b: comparisons, items, slices. -/
namespace Mini
open PySem PySem.Spec L2
section
variable {X : Cx}
theorem Opd.isNon {K : PySem.W.Frag} {Hf H : Hp} {d : D} {x : V} (h : Opd K Hf H d x) : decide (x = .non) = Mini.isNon d := by
  obtain ⟨f, h⟩ := h
  cases d <;> simp only [RV, RF] at h <;> unfold Mini.isNon
  · rw [h.2]; rfl
  · rw [h.2]; rfl
  · rw [h.2]; rfl
  · rw [h.2]; rfl
  · obtain ⟨_, a, vs, rfl, _⟩ := h; rfl
  · obtain ⟨_, a, vs, rfl, _⟩ := h; rfl
  · rcases h with ⟨_, _, _, a, vs, rfl, _⟩ | ⟨_, a, vs, g, rfl, _⟩ <;> rfl
  · rcases h with ⟨_, _, _, a, vs, rfl, _⟩ | ⟨_, a, vs, g, rfl, _⟩ <;> rfl
  · rcases h with ⟨_, _, _, a, vs, rfl, _⟩ | ⟨_, a, vs, g, rfl, _⟩ <;> rfl
  · obtain ⟨_, a, rfl, _⟩ := h; rfl

theorem opd_lst_heap {pins : List (Addr × Obj)} {σ : St} {Hf H : Hp} {s : Shared} {m : Bool} {xs : List D} {x : V} {v : Value} (I : Inv X pins σ H s) (sb : Sub Hf H) (h : Opd X.K Hf H (.lst m xs) x) (r : RelV x v) :
    ∃ (a : Addr) (its : List Value), v = .ref a ∧ s.heap.IsList a its.toArray ∧ its.length = xs.length := by
  obtain ⟨a, vs, rfl, h1, h2, _⟩ := h.lst sb
  cases r
  obtain ⟨_, its, n, rv, hl, e⟩ := inv_lstR I h1
  exact ⟨a, its, rfl, ⟨_, e, rfl, _, rfl⟩, by omega⟩
theorem opd_tup_heap {pins : List (Addr × Obj)} {σ : St} {Hf H : Hp} {s : Shared} {xs : List D} {x : V} {v : Value} (I : Inv X pins σ H s) (sb : Sub Hf H) (h : Opd X.K Hf H (.tup xs) x) (r : RelV x v) :
    ∃ (a : Addr) (its : List Value), v = .ref a ∧ s.heap.IsTuple a its.toArray ∧ its.length = xs.length := by
  obtain ⟨a, vs, rfl, h1, h2⟩ := h.tup
  cases r
  obtain ⟨its, rv, ht, _⟩ := I.tuple (h1.sq sb)
  exact ⟨a, its, rfl, ht, by have := rv.length; have := h2.length; omega⟩
theorem opd_raw_heap {pins : List (Addr × Obj)} {σ : St} {Hf H : Hp} {s : Shared} {xs : List D} {x : V} {v : Value} (I : Inv X pins σ H s) (sb : Sub Hf H) (h : Opd X.K Hf H (.raw xs) x) (r : RelV x v) :
    ∃ (a : Addr) (its : List Value), v = .ref a ∧ s.heap.IsTuple a its.toArray ∧ its.length = xs.length := by
  obtain ⟨a, vs, rfl, h1, h2⟩ := h.raw
  cases r
  obtain ⟨its, rv, ht, _⟩ := I.tuple (.inl (.inl (sb _ _ h1)))
  exact ⟨a, its, rfl, ht, by have := rv.length; have := h2.length; omega⟩

theorem eqD_ok (hu : X.A.units + 64 < cLine) {pins : List (Addr × Obj)} {σ : St} {Hf H : Hp} {s : Shared} {d e : D} {x y : V} {v u : Value} {b : Bool} {Q : Value → Shared → Prop} (I : Inv X pins σ H s) (sb : Sub Hf H)
    (hd : Opd X.K Hf H d x) (he : Opd X.K Hf H e y) (rx : RelV x v) (ry : RelV y u) (g : eqD d e = some b) :
    ((Q (.bool b) s → wpAny (model X.prog X.w) X.A (compareOp .Eq v u) Q X.xe s) ∧ (Q (.bool (!b)) s → wpAny (model X.prog X.w) X.A (compareOp .NotEq v u) Q X.xe s)) := by
  unfold eqD at g
  split at g
  · rename_i hs
    rw [Bool.and_eq_true] at hs
    cases g
    obtain ⟨f, hd⟩ := hd
    obtain ⟨f', he⟩ := he
    obtain ⟨as, r1⟩ := Dp.reads I _ _ _ (dp_of sb d x f hd (shp_plain hs.1)) rx
    obtain ⟨bs, r2⟩ := Dp.reads I _ _ _ (dp_of sb e y f' he (shp_plain hs.2)) ry
    exact ⟨fun q => SeqAt.eq_plain r1 r2 (shp_plain hs.1) (shp_plain hs.2) (shp_room hs.1 hu) q, fun q => SeqAt.ne_plain r1 r2 (shp_plain hs.1) (shp_plain hs.2) (shp_room hs.1 hu) q⟩
  · split at g
    · rename_i m xs m2 _
      cases g
      obtain ⟨a, its, rfl, h1, h2⟩ := opd_lst_heap I sb hd rx
      obtain ⟨c, its2, rfl, k1, k2⟩ := opd_lst_heap I sb he ry
      cases xs with
      | nil =>
        have e1 : its = [] := List.length_eq_zero_iff.mp (by simpa using h2)
        have e2 : its2 = [] := List.length_eq_zero_iff.mp (by simpa using k2)
        subst e1 e2
        refine ⟨fun q => SeqAt.eq_listAt (e := fun _ => true) h1 k1 rfl (by omega) (fun j h _ => absurd h (by simp)) (by simpa using q), fun q => ?_⟩
        exact SeqAt.RcNeAt.lists (e := fun _ => true) h1 k1 rfl (by omega) (fun j h _ => absurd h (by simp)) _ _ _ _ (by simpa using q)
      | cons x0 xr =>
        have hne : (its.toArray.size != its2.toArray.size) = true := by
          simp only [List.size_toArray, h2, k2]
          simp
        exact ⟨fun q => SeqAt.eq_list_lengthsAt h1 k1 hne (by omega) (by simpa using q), fun q => SeqAt.RcNeAt.lists_lengths h1 k1 hne (by omega) _ _ _ _ (by simpa using q)⟩
    · rename_i xs _
      cases g
      obtain ⟨a, its, rfl, h1, h2⟩ := opd_tup_heap I sb hd rx
      obtain ⟨c, its2, rfl, k1, k2⟩ := opd_tup_heap I sb he ry
      have e2 : its2 = [] := List.length_eq_zero_iff.mp (by simpa using k2)
      subst e2
      have eb : ((List.range (min its.toArray.size ([] : List Value).toArray.size)).all (fun _ => true) && its.toArray.size == ([] : List Value).toArray.size) = xs.isEmpty := by
        cases xs with
        | nil =>
          have e1 : its = [] := List.length_eq_zero_iff.mp (by simpa using h2)
          subst e1; rfl
        | cons x0 xr => simp [h2]
      refine ⟨fun q => SeqAt.eq_tupleAt (e := fun _ => true) h1 k1 (by omega) (fun j h h' => absurd h' (by simp)) (by rw [eb]; exact q), fun q => ?_⟩
      exact SeqAt.RcNeAt.tuples (e := fun _ => true) h1 k1 (by omega) (fun j h h' => absurd h' (by simp)) _ _ _ _ (by rw [eb]; exact q)
    · cases g

theorem any_map_py (xs : List D) (d : PyData) : ((D.pys xs).any fun y => PyData.eqv y d) = xs.any fun y => PyData.eqv y.py d := by
  induction xs with
  | nil => rfl
  | cons x xs ih => simp only [D.pys, List.any_cons, ih]

theorem inD_lst (hu : X.A.units + 65 < cLine) {pins : List (Addr × Obj)} {σ : St} {Hf H : Hp} {s : Shared} {d : D} {m : Bool} {xs : List D} {x y : V} {v u : Value} {b : Bool} {Q : Value → Shared → Prop} (I : Inv X pins σ H s) (sb : Sub Hf H)
    (hd : Opd X.K Hf H d x) (he : Opd X.K Hf H (.lst m xs) y) (rx : RelV x v) (ry : RelV y u) (g : inD d xs = some b) :
    ((Q (.bool b) s → wpAny (model X.prog X.w) X.A (compareOp .In v u) Q X.xe s) ∧ (Q (.bool (!b)) s → wpAny (model X.prog X.w) X.A (compareOp .NotIn v u) Q X.xe s)) := by
  unfold inD at g
  split at g
  · rename_i hs
    rw [Bool.and_eq_true] at hs
    cases g
    obtain ⟨f, hd⟩ := hd
    obtain ⟨f', he⟩ := he
    have c2 : (D.lst m xs).py = .list (D.pys xs) := by simp only [D.py]
    obtain ⟨as, r1⟩ := Dp.reads I _ _ _ (dp_of sb d x f hd (shp_plain hs.1)) rx
    obtain ⟨bs, r2⟩ := Dp.reads I _ _ _ (dp_of sb (.lst m xs) y f' he (by rw [c2]; exact shp_plain hs.2)) ry
    rw [c2] at r2
    exact ⟨fun q => SeqAt.in_list_data r2 r1 (shp_plain hs.2) (shp_plain hs.1) (shp_in hs.1 hu) (by rw [any_map_py]; exact q), fun q => SeqAt.notIn_list_data r2 r1 (shp_plain hs.2) (shp_plain hs.1) (shp_in hs.1 hu) (by rw [any_map_py]; exact q)⟩
  · cases g
theorem inD_tup (hu : X.A.units + 65 < cLine) {pins : List (Addr × Obj)} {σ : St} {Hf H : Hp} {s : Shared} {d : D} {xs : List D} {x y : V} {v u : Value} {b : Bool} {Q : Value → Shared → Prop} (I : Inv X pins σ H s) (sb : Sub Hf H)
    (hd : Opd X.K Hf H d x) (he : Opd X.K Hf H (.tup xs) y) (rx : RelV x v) (ry : RelV y u) (g : inD d xs = some b) :
    ((Q (.bool b) s → wpAny (model X.prog X.w) X.A (compareOp .In v u) Q X.xe s) ∧ (Q (.bool (!b)) s → wpAny (model X.prog X.w) X.A (compareOp .NotIn v u) Q X.xe s)) := by
  unfold inD at g
  split at g
  · rename_i hs
    rw [Bool.and_eq_true] at hs
    cases g
    obtain ⟨f, hd⟩ := hd
    obtain ⟨f', he⟩ := he
    have c2 : (D.tup xs).py = .tuple (D.pys xs) := by simp only [D.py]
    have cl : (PyData.list (D.pys xs)).plain = true := shp_plain hs.2
    obtain ⟨as, r1⟩ := Dp.reads I _ _ _ (dp_of sb d x f hd (shp_plain hs.1)) rx
    obtain ⟨bs, r2⟩ := Dp.reads I _ _ _ (dp_of sb (.tup xs) y f' he (by rw [c2]; exact cl)) ry
    rw [c2] at r2
    exact ⟨fun q => SeqAt.in_tuple_data r2 r1 cl (shp_plain hs.1) (shp_in hs.1 hu) (by rw [any_map_py]; exact q), fun q => SeqAt.notIn_tuple_data r2 r1 cl (shp_plain hs.1) (shp_in hs.1 hu) (by rw [any_map_py]; exact q)⟩
  · cases g

/-! ### dicts read -/
theorem keyOf_V {K : PySem.W.Frag} {Hf H : Hp} {d : D} {x : V} {k : Key} (h : Opd K Hf H d x) (e : keyOf d = some k) : x = kV k := by
  cases d <;> simp only [keyOf] at e <;> try cases e
  · exact h.int
  · exact h.str
theorem keysOf_V {K : PySem.W.Frag} {Hf : Hp} : ∀ {ds : List D} {vs : List V} {ks : List Key}, RFs K Hf ds vs → keysOf ds = some ks → vs = ks.map kV
  | [], vs, ks, h, e => by simp only [RFs] at h; simp only [keysOf, Option.some.injEq] at e; subst h; subst e; rfl
  | d :: ds, vs, ks, h, e => by
    simp only [RFs] at h
    obtain ⟨v, r, rfl, h1, h2⟩ := h
    simp only [keysOf] at e
    cases q : keyOf d with
    | none => rw [q] at e; cases e
    | some k =>
      cases q2 : keysOf ds with
      | none => rw [q, q2] at e; cases e
      | some ks' =>
        rw [q, q2] at e
        simp only [Option.bind_some, Option.map_some, Option.some.injEq] at e
        subst e
        rw [keyOf_V (H := Hf) ⟨[], RV.of_RF h1⟩ q, keysOf_V h2 q2]; rfl
theorem keyT_V {K : PySem.W.Frag} {Hf H : Hp} {d : D} {x : V} {k : List Key} (sb : Sub Hf H) (h : Opd K Hf H d x) (e : keyTOf d = some k) : ∃ b, x = .ref b ∧ H b = some (.tup (k.map kV)) := by
  cases d <;> simp only [keyTOf] at e <;> try cases e
  obtain ⟨a, vs, rfl, h1, h2⟩ := h.raw
  exact ⟨a, rfl, by rw [← keysOf_V h2 e]; exact sb _ _ h1⟩
theorem lookK_val {κ : Type} [DecidableEq κ] {K : PySem.W.Frag} {Hf H : Hp} : ∀ {kvs : List (κ × V)} {ds : List D} {k : κ} {d : D}, ds.length = kvs.length →
    (∀ (i : Nat) (d : D), ds[i]? = some d → ∃ v, (kvs.map (·.2))[i]? = some v ∧ Opd K Hf H d v) → lookK (kvs.map (·.1)) ds k = some d → ∃ v, valV kvs k = some v ∧ Opd K Hf H d v
  | [], _, _, _, _, _, e => by simp [lookK] at e
  | (j, w) :: kvs, [], _, _, hl, _, e => by simp at hl
  | (j, w) :: kvs, x :: ds, k, d, hl, hg, e => by
    simp only [List.map_cons, lookK] at e
    by_cases hj : j = k
    · rw [if_pos hj] at e
      cases e
      obtain ⟨v, h1, h2⟩ := hg 0 x rfl
      simp at h1
      subst h1
      exact ⟨w, valV_pos hj, h2⟩
    · rw [if_neg hj] at e
      obtain ⟨v, h1, h2⟩ := lookK_val (kvs := kvs) (by simpa using hl) (fun i d h => by
        obtain ⟨v, a, b⟩ := hg (i + 1) d (by simpa using h)
        exact ⟨v, by simpa using a, b⟩) e
      exact ⟨v, by rw [valV_neg hj]; exact h1, h2⟩
theorem hasK_val {κ : Type} [DecidableEq κ] (k : κ) : ∀ kvs : List (κ × V), hasK (kvs.map (·.1)) k = (valV kvs k).isSome
  | [] => by simp [hasK, valV]
  | (j, w) :: kvs => by
    by_cases hj : j = k
    · rw [valV_pos hj]; simp [hasK, hj]
    · rw [valV_neg hj, ← hasK_val k kvs]
      have : k ≠ j := fun e => hj e.symm
      simp [hasK, this]
theorem dget_K {K : PySem.W.Frag} {Hf H : Hp} {d : D} {y : V} {a : Addr} {kvs : List (Key × V)} {k : Key} (h : Opd K Hf H d y) (e : keyOf d = some k) (r : Rd H a (.dK kvs)) : DGet H a y (valV kvs k) :=
  .inl ⟨kvs, k, r, keyOf_V h e, rfl⟩
theorem dget_T {K : PySem.W.Frag} {Hf H : Hp} {d : D} {y : V} {a : Addr} {kvs : List (List Key × V)} {k : List Key} (sb : Sub Hf H) (h : Opd K Hf H d y) (e : keyTOf d = some k) (r : Rd H a (.dT kvs)) : DGet H a y (valV kvs k) := by
  obtain ⟨b, h1, h2⟩ := keyT_V sb h e
  exact .inr ⟨kvs, k, b, r, h1, h2, rfl⟩

theorem op_cmp (hu : X.A.units + 65 < cLine) {op : CmpOp} : OpR X (compareOp op) (rOp X.K fun d e => (cmpD op d e).map D.bl) := by
  intro pins s σ H x y v u Q I rx ry h
  obtain ⟨Hf, d, e, r, sb, hd, he, hg, q⟩ := h
  obtain ⟨b, hg', rfl⟩ := Option.map_eq_some_iff.mp hg
  clear hg
  have hg := hg'
  clear hg'
  have q' : Q (.bl b) H := q _ _ (.bl sb)
  have fin : EP X pins σ Q (.bool b) s := ⟨.bl b, H, I, rfl, q'⟩
  unfold cmpD at hg
  split at hg
  · cases hg; exact op_lt pins s σ H x y v u Q I rx ry ⟨_, _, hd.int, he.int, q'⟩
  · cases hg; exact op_le pins s σ H x y v u Q I rx ry ⟨_, _, hd.int, he.int, q'⟩
  · cases hg; exact op_gt pins s σ H x y v u Q I rx ry ⟨_, _, hd.int, he.int, q'⟩
  · cases hg; exact op_ge pins s σ H x y v u Q I rx ry ⟨_, _, hd.int, he.int, q'⟩
  · exact (eqD_ok (by omega) I sb hd he rx ry hg).1 fin
  · obtain ⟨c, hg2, rfl⟩ := Option.map_eq_some_iff.mp hg
    exact (eqD_ok (by omega) I sb hd he rx ry hg2).2 fin
  · cases hg; exact op_isBl pins s σ H x y v u Q I rx ry ⟨_, _, hd.bl, he.bl, by rw [← Bool.beq_eq_decide_eq]; exact q'⟩
  · cases hg; exact op_isN pins s σ H x y v u Q I rx ry ⟨he.non, by rw [hd.isNon]; exact q'⟩
  · cases hg; exact op_notBl pins s σ H x y v u Q I rx ry ⟨_, _, hd.bl, he.bl, by
      rename_i b c
      have e : (!decide (b = c)) = (b != c) := by cases b <;> cases c <;> rfl
      rw [e]; exact q'⟩
  · cases hg; exact op_notN pins s σ H x y v u Q I rx ry ⟨he.non, by rw [hd.isNon]; exact q'⟩
  · exact (inD_lst hu I sb hd he rx ry hg).1 fin
  · exact (inD_tup hu I sb hd he rx ry hg).1 fin
  · obtain ⟨k, hk, rfl⟩ := Option.map_eq_some_iff.mp hg
    obtain ⟨a, kvs, rfl, h1, rfl, _⟩ := he.dK sb
    cases ry
    exact d_in (by omega) I (dget_K hd hk h1) rx fun s' I' => ⟨.bl _, H, I', rfl, by rw [← hasK_val]; exact q'⟩
  · obtain ⟨k, hk, rfl⟩ := Option.map_eq_some_iff.mp hg
    obtain ⟨a, kvs, rfl, h1, rfl, _⟩ := he.dT sb
    cases ry
    exact d_in (by omega) I (dget_T sb hd hk h1) rx fun s' I' => ⟨.bl _, H, I', rfl, by rw [← hasK_val]; exact q'⟩
  · obtain ⟨c, hg2, rfl⟩ := Option.map_eq_some_iff.mp hg
    exact (inD_lst hu I sb hd he rx ry hg2).2 fin
  · obtain ⟨c, hg2, rfl⟩ := Option.map_eq_some_iff.mp hg
    exact (inD_tup hu I sb hd he rx ry hg2).2 fin
  · obtain ⟨k, hk, rfl⟩ := Option.map_eq_some_iff.mp hg
    obtain ⟨a, kvs, rfl, h1, rfl, _⟩ := he.dK sb
    cases ry
    exact d_notIn (by omega) I (dget_K hd hk h1) rx fun s' I' => ⟨.bl _, H, I', rfl, by rw [← hasK_val]; exact q'⟩
  · obtain ⟨k, hk, rfl⟩ := Option.map_eq_some_iff.mp hg
    obtain ⟨a, kvs, rfl, h1, rfl, _⟩ := he.dT sb
    cases ry
    exact d_notIn (by omega) I (dget_T sb hd hk h1) rx fun s' I' => ⟨.bl _, H, I', rfl, by rw [← hasK_val]; exact q'⟩
  · cases hg

/-! ### slices -/
theorem cut_len {α β : Type} {xs : List α} {ys : List β} (h : xs.length = ys.length) (lo hi : Option Int) : cutD xs lo hi = (xs.drop (HT.sIx ys.length 0 lo)).take (HT.sIx ys.length ys.length hi - HT.sIx ys.length 0 lo) := by
  unfold cutD; rw [h]
theorem RFs.cut {K : PySem.W.Frag} {Hf : Hp} {ds : List D} {vs : List V} (h : RFs K Hf ds vs) (lo hi : Option Int) : RFs K Hf (cutD ds lo hi) (cutV vs lo hi) := by
  have e : cutV vs lo hi = (vs.drop (HT.sIx ds.length 0 lo)).take (HT.sIx ds.length ds.length hi - HT.sIx ds.length 0 lo) := by unfold cutV; rw [h.length]
  rw [e]
  exact RFs.take _ (RFs.drop _ h)
def rSlD (K : PySem.W.Frag) : V → Option Int → Option Int → Hp → VK → Prop := fun x lo hi H Q => ∃ Hf d r, Sub Hf H ∧ Opd K Hf H d x ∧ slcD d lo hi = some r ∧ ∀ v H', Res K Hf H r v H' → Q v H'
theorem cutV_map (ns : List Int) (lo hi : Option Int) : cutV (ns.map V.int) lo hi = (cutD ns lo hi).map V.int := by
  unfold cutV cutD
  rw [List.length_map, List.map_take, List.map_drop]
theorem sl_D : SlR X (rSlD X.K) := by
  intro pins s σ H x v vl vu lo hi sl Q I rx hs pl pu h
  obtain ⟨Hf, d, r, sb, hd, hg, q⟩ := h
  unfold slcD at hg
  split at hg
  · cases hg
    obtain ⟨a, vs, rfl, h1, h2⟩ := hd.tup
    refine sl_tupF pins s σ H _ v vl vu lo hi sl Q I rx hs pl pu ⟨a, vs, rfl, h1.sq sb, fun z => ?_, fun _ p o hp ho => q _ _ (.tup sb hp ho (h2.cut lo hi))⟩
    refine q _ _ (.same sb ?_)
    have e : cutV vs lo hi = vs := by
      unfold cutV
      rw [z.1, z.2]; simp
    have h3 := h2.cut lo hi
    rw [e] at h3
    simp only [RF]
    exact ⟨a, vs, rfl, h1, h3⟩
  · split at hg
    · rename_i hp
      cases hg
      obtain ⟨a, vs, rfl, h1, h2, h3, _⟩ := hd.lst sb
      exact sl_list pins s σ H _ v vl vu lo hi sl Q I rx hs pl pu ⟨a, vs, rfl, .inl h1, fun p hn => q _ _ (.lst sb hn ((h3 hp).cut lo hi))⟩
    · cases hg
  · cases hg
    obtain ⟨f, hd⟩ := hd
    simp only [RV, RF] at hd
    obtain ⟨_, a, rfl, h1⟩ := hd
    refine sl_list pins s σ H _ v vl vu lo hi sl Q I rx hs pl pu ⟨a, _, rfl, SqL.ext (.of sb) h1, fun p hn => ?_⟩
    rw [cutV_map]
    exact q _ _ (.lst sb hn (RFs.of_ints _ _))
  · cases hg
end
end Mini
set_option linter.all false
set_option maxRecDepth 10000
/-! M3c: sorted. -/
namespace PyProof.Rows
open PySem PySem.Spec
variable {prog : Program} {w : World} {A : Around} {E : Value → Shared → Prop} {s : Shared}
theorem collect_tupl {l : Addr} {vs : List Value} {Q : List Value → Shared → Prop} (hl : s.heap.IsTuple l vs.toArray)
    (h : Q vs { s with heap := (s.heap.push (seqObj "list" #[] 0)).update s.heap.objs.size (Obj.mapSeq (· ++ vs.toArray)) }) (hsz : vs.length ≤ sizeLine) :
    wpAny (model prog w) A (collect (.ref l)) Q E s := by
  obtain ⟨o, ho, hc, n, hd⟩ := id hl
  unfold collect
  refine wpAny_bind (wpAny_runValue (codeAny_builtin entry_proto_collect' ?_))
  show wpAny _ _ (do again (.builtin "list.__iadd__" ⟨[← newList [], .ref l], []⟩)) _ _ s
  refine wpAny_bind (wpAny_newList (wpAny_pure ⟨Code.quiet_builtin _ (by decide +kernel), codeAny_builtin entry_list_iadd' ?_⟩))
  show wpAny _ _ (Builtin.List.listExtendWith (.ref s.heap.objs.size) (.ref l) (.ref s.heap.objs.size)) _ _ { s with heap := s.heap.push (seqObj "list" #[] 0) }
  unfold Builtin.List.listExtendWith
  have ho' : (s.heap.push (seqObj "list" #[] 0)).get? l = some o := Heap.get?_push_of_some _ ho
  refine wpAny_bind (wpAny_typeOf (T := "tuple") ⟨o, ho', hc⟩ ?_)
  have ht : (Value.type "tuple" == Value.type "tuple") = true := by rfl
  rw [if_pos (by rw [ht]; simp)]
  refine wpAny_bind (listItems_at ho' hd ?_)
  refine wpAny_bind (listItems_at (xs := #[]) (n := 0) (Heap.get?_push_size _ rfl) rfl ?_)
  rw [if_neg (by simp)]
  refine wpAny_bind (listUpdate_at (xs := #[]) (n := 0) (Heap.get?_push_size _ rfl) rfl ?_ (Nat.zero_le _) (by show (#[] ++ vs.toArray).size ≤ sizeLine + 1; simp only [Array.size_append, List.size_toArray, List.length_nil]; omega))
  refine wpAny_pure ?_
  show wpAny (model prog w) A (do
      let o ← load s.heap.objs.size
      match o.data with
      | .seq xs _ => pure xs.toList
      | _ => unsupported "internal:collect") Q E { s with heap := (s.heap.push (seqObj "list" #[] 0)).update s.heap.objs.size (Obj.mapSeq (· ++ vs.toArray)) }
  refine wpAny_bind (wpAny_load (get?_update_seq (Heap.get?_push_size _ rfl) _) ?_)
  show wpAny _ _ (pure ((#[] : Array Value) ++ vs.toArray).toList) Q E _
  rw [show ((#[] : Array Value) ++ vs.toArray).toList = vs by simp]
  exact wpAny_pure h
end PyProof.Rows

namespace Mini
open PySem PySem.Spec L2 PyProof.Rows
section
variable {prog : Program} {w : World} {A : Around} {E : Value → Shared → Prop} {s : Shared}
/-- the items of x are collected: vs -/
def Collects (prog : Program) (w : World) (A : Around) (s : Shared) (x : Value) (vs : List Value) : Prop :=
  ∀ (E : Value → Shared → Prop) (Q : List Value → Shared → Prop), (∀ (h' : Heap) (tk : Nat), (∀ b o, s.heap.get? b = some o → h'.get? b = some o) → Q vs { s with heap := h', toks := tk }) → wpAny (model prog w) A (collect x) Q E s
theorem keep_coll (vs : List Value) : ∀ b o, s.heap.get? b = some o → ((s.heap.push (seqObj "list" #[] 0)).update s.heap.objs.size (Obj.mapSeq (· ++ vs.toArray))).get? b = some o := fun b o q => by
  have hlt : b < s.heap.objs.size := Heap.lt_size q
  rw [Heap.get?_update_ne _ _ _ _ (Nat.ne_of_lt hlt)]
  exact Heap.get?_push_of_some _ q
theorem Collects.list {l : Addr} {vs : List Value} (hl : s.heap.IsList l vs.toArray) (hz : vs.length ≤ sizeLine) : Collects prog w A s (.ref l) vs := fun E Q h =>
  collect_list hl (h _ s.toks (keep_coll vs)) hz
theorem Collects.tuple {l : Addr} {vs : List Value} (hl : s.heap.IsTuple l vs.toArray) (hz : vs.length ≤ sizeLine) : Collects prog w A s (.ref l) vs := fun E Q h =>
  collect_tupl hl (h _ s.toks (keep_coll vs)) hz
/-- sorted(x) of what is collected -/
theorem sorted_coll {x : Value} {vs : List Value} {ltv : Value → Value → Bool} {Q : Value → Shared → Prop} (O : SrtO.Swo ltv) (hx : Collects prog w A.in1 s x vs) (hz : vs.length ≤ sizeLine)
    (hS : 2 ≤ vs.length → ∀ (h₁ : Heap) (tk : Nat) (a : Addr), h₁.get? a = some (seqObj "list" vs.toArray 0) → (∀ b o, s.heap.get? b = some o → b ≠ a ∧ h₁.get? b = some o) → SrtO.SortableO prog w A.in1.in1 { s with heap := h₁, toks := tk } a vs ltv)
    (h : ∀ (out : List Value) (h1 h' : Heap) (tk : Nat), SrtO.Srtd ltv out → SrtO.Stb ltv out vs → (∀ b o, s.heap.get? b = some o → h1.get? b = some o) → (∀ b o, h1.get? b = some o → h'.get? b = some o) → (∃ n, h'.get? h1.objs.size = some (seqObj "list" out.toArray n)) → Q (.ref h1.objs.size) { s with heap := h', toks := tk }) :
    wpAny (model prog w) A (call (.builtin "sorted") [x]) Q E s := by
  refine Calls.call_function_entry kind_sorted plain_sorted entry_sorted (args_sorted1 _) ?_
  unfold Builtin.«sorted»
  refine wpAny_bind (m := checkCount "sorted" 1 1 _) (wpAny_pure ?_)
  refine wpAny_bind (hx _ _ fun h1 tk k1 => ?_)
  refine wpAny_bind (wpAny_newList ?_ hz)
  have hoL : (h1.push (seqObj "list" vs.toArray 0)).get? h1.objs.size = some (seqObj "list" vs.toArray 0) := Heap.get?_push_size _ rfl
  have keep : ∀ b o, s.heap.get? b = some o → b ≠ h1.objs.size ∧ (h1.push (seqObj "list" vs.toArray 0)).get? b = some o := fun b o q =>
    ⟨Nat.ne_of_lt (Heap.lt_size (k1 _ _ q)), Heap.get?_push_of_some _ (k1 _ _ q)⟩
  show wpAny _ _ _ _ _ { s with heap := h1.push (seqObj "list" vs.toArray 0), toks := tk }
  refine wpAny_bind (wpAny_holding (wpAny_call_entry slot_list_sort ⟨_, hoL, rfl⟩ entry_list_sort (SrtO.list_sort_ord (s := { s with heap := h1.push (seqObj "list" vs.toArray 0), toks := tk }) O hoL hz (fun h2 => hS h2 _ _ _ hoL keep) fun out hs hb => ⟨_, rfl, ?_⟩) (args_list_sort _)))
  refine wpAny_pure ⟨_, rfl, h out h1 _ _ hs hb k1 (fun b o e => ?_) (sortedHeap_at hoL)⟩
  exact (sortedHeap_old (Nat.ne_of_lt (Heap.lt_size e)) (Heap.lt_size (Heap.get?_push_of_some _ e))).trans (Heap.get?_push_of_some _ e)

/-! ### rows of ints -/
def IsRow (h : Heap) (v : Value) (r : List Int) : Prop := ∃ (a : Addr) (its : List Value) (n : Nat) (o : Obj), v = .ref a ∧ h.get? a = some o ∧ o.cls = .type "tuple" ∧ o.data = .seq its.toArray n ∧ IntsAre its r
theorem IsRow.keeps {h h' : Heap} {v : Value} {r : List Int} (x : IsRow h v r) (k : ∀ b o, h.get? b = some o → o.cls = .type "tuple" → h'.get? b = some o) : IsRow h' v r := by
  obtain ⟨a, its, n, o, e, ho, hc, hd, hi⟩ := x
  exact ⟨a, its, n, o, e, k _ _ ho hc, hc, hd, hi⟩
theorem lexLt_irr : ∀ a : List Int, HT.lexLt a a = false
  | [] => rfl
  | x :: a => by rw [HT.lexLt_cons, if_pos rfl]; exact lexLt_irr a
theorem lexLt_asym : ∀ a b : List Int, HT.lexLt a b = true → HT.lexLt b a = false
  | [], [], h => rfl
  | [], _ :: _, h => rfl
  | _ :: _, [], h => by rw [HT.lexLt_cons_nil] at h; cases h
  | x :: a, y :: b, h => by
    rw [HT.lexLt_cons] at h ⊢
    by_cases e : x = y
    · rw [if_pos e] at h; rw [if_pos e.symm]; exact lexLt_asym a b h
    · rw [if_neg e, decide_eq_true_eq] at h; rw [if_neg (fun z => e z.symm)]; exact decide_eq_false (by omega)
theorem lexLt_tr : ∀ a b c : List Int, HT.lexLt b a = false → HT.lexLt c b = false → HT.lexLt c a = false
  | [], b, [], _, _ => rfl
  | [], [], c :: _, _, h => by rw [HT.lexLt_cons_nil] ; all_goals rfl
  | [], _ :: _, c :: _, _, h => by rw [HT.lexLt_cons_nil] ; all_goals rfl
  | _ :: _, [], _, h, _ => by rw [HT.lexLt_nil_cons] at h; cases h
  | _ :: _, _ :: _, [], _, h => by rw [HT.lexLt_nil_cons] at h; cases h
  | x :: a, y :: b, z :: c, h1, h2 => by
    rw [HT.lexLt_cons] at h1 h2 ⊢
    by_cases e : y = x
    · rw [if_pos e] at h1
      by_cases e2 : z = y
      · rw [if_pos e2] at h2; rw [if_pos (e2.trans e)]; exact lexLt_tr a b c h1 h2
      · rw [if_neg e2, decide_eq_false_iff_not] at h2
        rw [if_neg (fun q => e2 (q.trans e.symm))]; exact decide_eq_false (by omega)
    · rw [if_neg e, decide_eq_false_iff_not] at h1
      by_cases e2 : z = y
      · rw [if_neg (fun q => e (e2.symm.trans q))]; exact decide_eq_false (by omega)
      · rw [if_neg e2, decide_eq_false_iff_not] at h2
        rw [if_neg (by omega)]; exact decide_eq_false (by omega)
theorem lexLt_eq : ∀ a b : List Int, HT.lexLt a b = false → HT.lexLt b a = false → a = b
  | [], [], _, _ => rfl
  | [], _ :: _, h, _ => by rw [HT.lexLt_nil_cons] at h; cases h
  | _ :: _, [], _, h => by rw [HT.lexLt_nil_cons] at h; cases h
  | x :: a, y :: b, h1, h2 => by
    rw [HT.lexLt_cons] at h1 h2
    by_cases e : x = y
    · rw [if_pos e] at h1; rw [if_pos e.symm] at h2; rw [e, lexLt_eq a b h1 h2]
    · rw [if_neg e, decide_eq_false_iff_not] at h1
      rw [if_neg (fun z => e z.symm), decide_eq_false_iff_not] at h2
      omega
theorem swo_row (k : Value → List Int) : SrtO.Swo fun v u => HT.lexLt (k v) (k u) := ⟨fun _ _ h => lexLt_asym _ _ h, fun _ _ _ h1 h2 => lexLt_tr _ _ _ h1 h2⟩
theorem row_lex {Q : Bool → Shared → Prop} : ∀ (xs ys : List Value) (r r' : List Int) (i : Nat) (b : Bool), IntsAre xs r → IntsAre ys r' → b = decide (xs.length < ys.length) → (i = 0 → True) → Q (HT.lexLt r r') s →
    PySem.W.KatLex prog w A true b Q (xs.zip ys) i s
  | [], [], _, _, i, b, .nil, .nil, hb, _, h => by
    subst hb; exact PySem.W.kat_nil (by simpa [HT.lexLt] using h)
  | [], _ :: _, _, _, i, b, .nil, .cons y u hy, hb, _, h => by
    subst hb; exact PySem.W.kat_nil (by simpa [HT.lexLt] using h)
  | _ :: _, [], _, _, i, b, .cons x t hx, .nil, hb, _, h => by
    subst hb; exact PySem.W.kat_nil (by simpa [HT.lexLt] using h)
  | _ :: _, _ :: _, _, _, i, b, .cons (ns := r) x t hx, .cons (ns := r') y u hy, hb, _, h => by
    rw [List.zip_cons_cons]
    rw [HT.lexLt_cons] at h
    refine PySem.W.kat_cons (SeqAt.EqAt.int_int x t y u prog w _ _ ?_)
    refine PySem.W.kat_go (fun e1 => ?_) (fun e1 => ?_)
    · have ex : x = y := by simpa using e1
      rw [if_pos ex] at h
      exact PySem.W.kat_yes (row_lex _ _ r r' (i + 1) b hx hy (by rw [hb]; simp) (fun _ => trivial) h)
    · have ex : ¬ x = y := by simpa using e1
      rw [if_neg ex] at h
      refine PySem.W.kat_no ?_
      cases i with
      | zero => exact PyProof.Rows.oneLt_int h
      | succ i => exact PySem.W.kat_one _ _ (PyProof.Rows.lt_int h)

theorem row_cmp {vs : List Value} {k : Value → List Int} (hp : ∀ v ∈ vs, IsRow s.heap v (k v)) : SrtO.Cmp prog w A s (tuples' true) (fun p => p.1 ∈ vs) (SrtO.lt2 fun v u => HT.lexLt (k v) (k u)) := by
  intro p q hm hm'
  have h1 := hp _ hm
  have h2 := hp _ hm'
  show wpAny (model prog w) A (keyLt' (tuples' true) p.1 q.1) (fun r s' => s' = s ∧ r = HT.lexLt (k p.1) (k q.1)) (fun _ _ => False) s
  generalize k p.1 = r1 at h1 ⊢
  generalize k q.1 = r2 at h2 ⊢
  obtain ⟨a, its, n, o, e, ho, hc, hd, hi⟩ := h1
  obtain ⟨a', its', n', o', e', ho', hc', hd', hi'⟩ := h2
  rw [e, e']
  exact PySem.W.kat_lt ho hd ho' hd' (row_lex its its' r1 r2 0 _ hi hi' (by simp) (fun _ => trivial) ⟨rfl, rfl⟩)
theorem row_firsts {h : Heap} {k : Value → List Int} : ∀ {vs : List Value}, (∀ v ∈ vs, IsRow h v (k v) ∧ k v ≠ []) → ∃ fs : List Value, PySem.W.KatTups h vs fs ∧ fs.length = vs.length ∧ ∀ f ∈ fs, ∃ x t, f = Value.int x t
  | [], _ => ⟨[], PySem.W.KatTups.nil, rfl, fun _ hm => by simp at hm⟩
  | v :: vs, hp => by
    obtain ⟨fs, h1, h2, h3⟩ := row_firsts (vs := vs) fun v' hm => hp v' (List.mem_cons_of_mem _ hm)
    obtain ⟨⟨a, its, n, o, e, ho, hc, hd, hi⟩, hne⟩ := hp v List.mem_cons_self
    subst e
    generalize hk : k (.ref a) = kr at hi hne
    cases hi with
    | nil => exact absurd rfl hne
    | cons x t r =>
      refine ⟨.int x t :: fs, PySem.W.KatTups.cons ho hc hd rfl h1, by rw [List.length_cons, List.length_cons, h2], fun f hm => ?_⟩
      rcases List.mem_cons.mp hm with rfl | hm
      · exact ⟨x, t, rfl⟩
      · exact h3 f hm
theorem row_sortable {a : Addr} {vs : List Value} {k : Value → List Int} (h0 : 0 < vs.length) (hp : ∀ v ∈ vs, IsRow s.heap v (k v) ∧ k v ≠ []) (ha : ∀ o, s.heap.get? a = some o → o.cls ≠ .type "tuple") : SrtO.SortableO prog w A s a vs fun v u => HT.lexLt (k v) (k u) := by
  intro h' keep
  have hp' : ∀ v ∈ vs, IsRow h' v (k v) ∧ k v ≠ [] := fun v hm => ⟨(hp v hm).1.keeps fun b o e c => keep b o (fun z => by subst z; exact ha o e c) e, (hp v hm).2⟩
  obtain ⟨fs, h1, h2, h3⟩ := row_firsts hp'
  refine ⟨tuples' true, fun Q E hq => ?_, row_cmp fun v hv => (hp' v hv).1⟩
  refine PySem.W.kat_kind (T := .type "int") h1 (by omega) (fun f hm => ?_) (by rfl) ?_
  · obtain ⟨x, t, rfl⟩ := h3 f hm
    exact PySem.W.Looks.now
  · have e : (Value.type "int" != Value.type "tuple") = true := by first | decide +kernel | rfl | decide
    rw [e]
    exact hq
end

/-! ### one sorted list alone -/
theorem sorted_one {α : Type} (R : α → α → Prop) (anti : ∀ a b, R a b → R b a → a = b) : ∀ {l m : List α}, l.Perm m → l.Pairwise R → m.Pairwise R → l = m
  | [], m, p, _, _ => (List.Perm.nil_eq p)
  | a :: l, [], p, _, _ => absurd p.length_eq (by simp)
  | a :: l, b :: m, p, h1, h2 => by
    obtain ⟨a1, h1⟩ := List.pairwise_cons.mp h1
    obtain ⟨b1, h2⟩ := List.pairwise_cons.mp h2
    have e : a = b := by
      have ha : a ∈ b :: m := p.mem_iff.mp List.mem_cons_self
      have hb : b ∈ a :: l := p.mem_iff.mpr List.mem_cons_self
      rcases List.mem_cons.mp ha with e | ha
      · exact e
      · rcases List.mem_cons.mp hb with e | hb
        · exact e.symm
        · exact anti a b (a1 b hb) (b1 a ha)
    have p' : l.Perm m := by
      rw [e] at p
      exact List.Perm.cons_inv p
    rw [sorted_one R anti p' h1 h2, e]
theorem insI_perm (a : Int) : ∀ l : List Int, (insI a l).Perm (a :: l)
  | [] => List.Perm.refl _
  | b :: l => by
    unfold insI
    split
    · exact List.Perm.refl _
    · exact ((insI_perm a l).cons b).trans (List.Perm.swap a b l)
theorem sortI_perm : ∀ l : List Int, (sortI l).Perm l
  | [] => List.Perm.refl _
  | a :: l => (insI_perm a _).trans ((sortI_perm l).cons a)
theorem insI_srt (a : Int) : ∀ l : List Int, l.Pairwise (· ≤ ·) → (insI a l).Pairwise (· ≤ ·)
  | [], _ => List.pairwise_singleton _ _
  | b :: l, h => by
    obtain ⟨h1, h2⟩ := List.pairwise_cons.mp h
    unfold insI
    split
    · rename_i hab
      refine List.pairwise_cons.mpr ⟨fun x hx => ?_, h⟩
      rcases List.mem_cons.mp hx with rfl | hx
      · exact hab
      · exact Int.le_trans hab (h1 x hx)
    · rename_i hab
      refine List.pairwise_cons.mpr ⟨fun x hx => ?_, insI_srt a l h2⟩
      rcases List.mem_cons.mp ((insI_perm a l).mem_iff.mp hx) with rfl | hx
      · omega
      · exact h1 x hx
theorem sortI_srt : ∀ l : List Int, (sortI l).Pairwise (· ≤ ·)
  | [] => List.Pairwise.nil
  | a :: l => insI_srt a _ (sortI_srt l)
theorem sortI_of {l m : List Int} (p : m.Perm l) (h : m.Pairwise (· ≤ ·)) : m = sortI l :=
  sorted_one (· ≤ ·) (fun _ _ h1 h2 => Int.le_antisymm h1 h2) (p.trans (sortI_perm l).symm) h (sortI_srt l)
theorem insR_perm (a : List Int) : ∀ l : List (List Int), (insR a l).Perm (a :: l)
  | [] => List.Perm.refl _
  | b :: l => by
    unfold insR
    split
    · exact ((insR_perm a l).cons b).trans (List.Perm.swap a b l)
    · exact List.Perm.refl _
theorem sortR_perm : ∀ l : List (List Int), (sortR l).Perm l
  | [] => List.Perm.refl _
  | a :: l => (insR_perm a _).trans ((sortR_perm l).cons a)
abbrev rowLe (x y : List Int) : Prop := HT.lexLt y x = false
theorem insR_srt (a : List Int) : ∀ l : List (List Int), l.Pairwise rowLe → (insR a l).Pairwise rowLe
  | [], _ => List.pairwise_singleton _ _
  | b :: l, h => by
    obtain ⟨h1, h2⟩ := List.pairwise_cons.mp h
    unfold insR
    split
    · rename_i hab
      refine List.pairwise_cons.mpr ⟨fun x hx => ?_, insR_srt a l h2⟩
      rcases List.mem_cons.mp ((insR_perm a l).mem_iff.mp hx) with rfl | hx
      · exact lexLt_asym _ _ hab
      · exact h1 x hx
    · rename_i hab
      have hab : HT.lexLt b a = false := by simpa using hab
      refine List.pairwise_cons.mpr ⟨fun x hx => ?_, h⟩
      rcases List.mem_cons.mp hx with rfl | hx
      · exact hab
      · exact lexLt_tr a b x hab (h1 x hx)
theorem sortR_srt : ∀ l : List (List Int), (sortR l).Pairwise rowLe
  | [] => List.Pairwise.nil
  | a :: l => insR_srt a _ (sortR_srt l)
theorem sortR_of {l m : List (List Int)} (p : m.Perm l) (h : m.Pairwise rowLe) : m = sortR l :=
  sorted_one rowLe (fun a b h1 h2 => lexLt_eq a b h2 h1) (p.trans (sortR_perm l).symm) h (sortR_srt l)

/-! ### sorted by values -/
def rB1 (K : PySem.W.Frag) (b : B1) : List V → Hp → VK → Prop := fun xs H Q => ∃ Hf d x r, xs = [x] ∧ Sub Hf H ∧ Opd K Hf H d x ∧ b1D b d = some r ∧ ∀ v H', Res K Hf H r v H' → Q v H'
/-- a tuple of either sort at a -/
def TupB (fl : Bool) (Hf : Hp) (a : Addr) (vs : List V) : Prop := if fl then Hf a = some (.tup vs) else TupAt Hf a vs
def rowF (fl : Bool) (r : List Int) : D := if fl then rowRaw r else rowD r
theorem TupB.sq {K : PySem.W.Frag} {fl : Bool} {Hf H : Hp} {a : Addr} {vs : List V} (h : TupB fl Hf a vs) (sb : ∀ a o, Hf a = some o → H a = some o) : SqT K H a vs := by
  cases fl with
  | true => exact .inl (.inl (sb _ _ h))
  | false => exact TupAt.sq h sb
theorem rowsOf_V {K : PySem.W.Frag} {Hf : Hp} : ∀ {ds : List D} {vs : List V} {rs : List (List Int)}, RFs K Hf ds vs → rowsOf ds = some rs →
    ∃ as : List Addr, vs = as.map V.ref ∧ as.length = rs.length ∧ ∀ (i : Nat) (a : Addr), as[i]? = some a → ∃ r, rs[i]? = some r ∧ TupAt Hf a (r.map V.int)
  | [], vs, rs, h, e => by
    simp only [RFs] at h
    simp only [rowsOf, Option.some.injEq] at e
    subst h e
    exact ⟨[], rfl, rfl, fun i a z => by simp at z⟩
  | d :: ds, vs, rs, h, e => by
    simp only [RFs] at h
    obtain ⟨v, t, rfl, h1, h2⟩ := h
    cases d <;> simp only [rowsOf] at e <;> try cases e
    rename_i xs
    cases q : intsOf xs with
    | none => rw [q] at e; cases e
    | some r =>
      cases q2 : rowsOf ds with
      | none => rw [q, q2] at e; cases e
      | some rs' =>
        rw [q, q2] at e
        simp only [Option.bind_some, Option.map_some, Option.some.injEq] at e
        subst e
        simp only [RF] at h1
        obtain ⟨a, ws, rfl, g1, g2⟩ := h1
        obtain ⟨as, e1, e2, e3⟩ := rowsOf_V h2 q2
        subst e1
        refine ⟨a :: as, rfl, by simp [e2], fun i b z => ?_⟩
        cases i with
        | zero =>
          simp at z; subst z
          exact ⟨r, rfl, by rw [← RFs.ints g2 q]; exact g1⟩
        | succ i =>
          obtain ⟨r', z1, z2⟩ := e3 i b (by simpa using z)
          exact ⟨r', by simpa using z1, z2⟩
theorem rowsRawOf_V {K : PySem.W.Frag} {Hf : Hp} : ∀ {ds : List D} {vs : List V} {rs : List (List Int)}, RFs K Hf ds vs → rowsRawOf ds = some rs →
    ∃ as : List Addr, vs = as.map V.ref ∧ as.length = rs.length ∧ ∀ (i : Nat) (a : Addr), as[i]? = some a → ∃ r, rs[i]? = some r ∧ Hf a = some (.tup (r.map V.int))
  | [], vs, rs, h, e => by
    simp only [RFs] at h
    simp only [rowsRawOf, Option.some.injEq] at e
    subst h e
    exact ⟨[], rfl, rfl, fun i a z => by simp at z⟩
  | d :: ds, vs, rs, h, e => by
    simp only [RFs] at h
    obtain ⟨v, t, rfl, h1, h2⟩ := h
    cases d <;> simp only [rowsRawOf] at e <;> try cases e
    rename_i xs
    cases q : intsOf xs with
    | none => rw [q] at e; cases e
    | some r =>
      cases q2 : rowsRawOf ds with
      | none => rw [q, q2] at e; cases e
      | some rs' =>
        rw [q, q2] at e
        simp only [Option.bind_some, Option.map_some, Option.some.injEq] at e
        subst e
        simp only [RF] at h1
        obtain ⟨a, ws, rfl, g1, g2⟩ := h1
        obtain ⟨as, e1, e2, e3⟩ := rowsRawOf_V h2 q2
        subst e1
        refine ⟨a :: as, rfl, by simp [e2], fun i b z => ?_⟩
        cases i with
        | zero =>
          simp at z; subst z
          exact ⟨r, rfl, by rw [← RFs.ints g2 q]; exact g1⟩
        | succ i =>
          obtain ⟨r', z1, z2⟩ := e3 i b (by simpa using z)
          exact ⟨r', by simpa using z1, z2⟩
theorem pures_of_rowsOf : ∀ {ds : List D} {rs : List (List Int)}, rowsOf ds = some rs → D.pures ds = true
  | [], _, _ => rfl
  | d :: ds, rs, e => by
    cases d <;> simp only [rowsOf] at e <;> try cases e
    rename_i xs
    cases q : intsOf xs with
    | none => rw [q] at e; cases e
    | some r =>
      cases q2 : rowsOf ds with
      | none => rw [q, q2] at e; cases e
      | some rs' => rw [D.pures_cons, pures_of_rowsOf q2]; rfl
theorem pures_of_rowsRawOf : ∀ {ds : List D} {rs : List (List Int)}, rowsRawOf ds = some rs → D.pures ds = true
  | [], _, _ => rfl
  | d :: ds, rs, e => by
    cases d <;> simp only [rowsRawOf] at e <;> try cases e
    rename_i xs
    cases q : intsOf xs with
    | none => rw [q] at e; cases e
    | some r =>
      cases q2 : rowsRawOf ds with
      | none => rw [q, q2] at e; cases e
      | some rs' => rw [D.pures_cons, pures_of_rowsRawOf q2]; rfl
/-- the row that stands at an address -/
def rowAt (Hf : Hp) (v : Value) : List Int := match v with
  | .ref a => (match Hf a with
    | some (.tup vs) => vs.map fun | .int i => i | _ => 0
    | some (.frz _ (.tup vs)) => vs.map fun | .int i => i | _ => 0
    | _ => [])
  | _ => []
theorem rowAt_ref {fl : Bool} {Hf : Hp} {a : Addr} {r : List Int} (h : TupB fl Hf a (r.map V.int)) : rowAt Hf (.ref a) = r := by
  have id_ : (r.map V.int).map (fun | .int i => i | _ => 0) = r := by
    rw [List.map_map]
    conv => rhs; rw [← List.map_id r]
    rfl
  unfold rowAt
  cases fl with
  | true => simp only [show Hf a = some (.tup (r.map V.int)) from h, id_]
  | false =>
    obtain ⟨o, h, _⟩ := (show TupAt Hf a (r.map V.int) from h)
    simp only [h, id_]
theorem RFs_rows {K : PySem.W.Frag} {fl : Bool} {Hf : Hp} : ∀ (as : List Addr), (∀ a ∈ as, ∃ r : List Int, TupB fl Hf a (r.map V.int)) → RFs K Hf ((as.map fun a => rowAt Hf (.ref a)).map (rowF fl)) (as.map V.ref)
  | [], _ => by simp [RFs]
  | a :: as, h => by
    simp only [List.map_cons, RFs]
    obtain ⟨r, hr⟩ := h a List.mem_cons_self
    refine ⟨_, _, rfl, ?_, RFs_rows as fun b hb => h b (List.mem_cons_of_mem _ hb)⟩
    rw [rowAt_ref hr]
    cases fl with
    | true =>
      simp only [rowF, rowRaw, if_true, RF]
      exact ⟨a, _, rfl, hr, RFs.of_ints _ _⟩
    | false =>
      simp only [rowF, rowD, Bool.false_eq_true, if_false, RF]
      exact ⟨a, _, rfl, hr, RFs.of_ints _ _⟩
section
variable {X : Cx} {pins : List (Addr × Obj)} {σ : L2.St} {Hf H : Hp} {s : Shared}
theorem is_row (I : L2.Inv X pins σ H s) {a : Addr} {r : List Int} (h : SqT X.K H a (r.map V.int)) : IsRow s.heap (.ref a) r := by
  obtain ⟨its, rv, ⟨o, ho, hc, n, hd⟩, _⟩ := I.tuple h
  exact ⟨a, its, n, o, rfl, ho, hc, hd, rv.ints⟩
/-- sorted of ints that are collected -/
theorem sortI_run {x : Value} {vs : List Value} {ns : List Int} {Q : VK} (I : L2.Inv X pins σ H s) (sb : Sub Hf H) (hx : Collects X.prog X.w X.A.in1 s x vs) (hz : vs.length ≤ sizeLine) (hi : IntsAre vs ns)
    (q : ∀ v H', Res X.K Hf H (.lst true ((sortI ns).map D.int)) v H' → Q v H') : wpAny (model X.prog X.w) X.A (call (.builtin "sorted") [x]) (EP X pins σ Q) X.xe s := by
  refine sorted_coll SrtO.swo_int hx hz (fun h2 h₁ tk a' _ _ => SrtO.ints_sortable hi h2) fun out h1 h' tk hs hb k1 k2 hat => ?_
  obtain ⟨g1, g2, g3⟩ := SrtO.ints_out hi hs hb
  have e := sortI_of g2 g3
  obtain ⟨n, hat⟩ := hat
  have I1 : L2.Inv X pins σ H { s with heap := h1, toks := tk } := I.kept k1
  have hl : (((sortI ns)).map V.int).length ≤ sizeLine := by
    rw [List.length_map, (sortI_perm ns).length_eq, ← hi.length]; exact hz
  have hv : Vals ((sortI ns).map V.int) out := by rw [← e]; exact vals_of_ints g1
  have I2 : L2.Inv X pins σ (upd H h1.objs.size (.lst ((sortI ns).map V.int))) { s with heap := h', toks := tk } := I1.laid (t' := tk) k2 (Nat.le_refl _) ⟨hl, out, n, hv, hat⟩
  exact ⟨.ref h1.objs.size, _, I2, rfl, q _ _ (.lst sb (I1.hok.fresh (Nat.le_refl _)) (RFs.of_ints _ _))⟩
/-- sorted of rows that are collected -/
theorem sortR_run (fl : Bool) {x : Value} {as : List Addr} {rs : List (List Int)} {Q : VK} (I : L2.Inv X pins σ H s) (sb : Sub Hf H) (hx : Collects X.prog X.w X.A.in1 s x (as.map Value.ref)) (hz : as.length ≤ sizeLine) (hl : as.length = rs.length)
    (hr : ∀ (i : Nat) (a : Addr), as[i]? = some a → ∃ r : List Int, rs[i]? = some r ∧ TupB fl Hf a (r.map V.int)) (hne : rs.all (fun r => !r.isEmpty) = true)
    (q : ∀ v H', Res X.K Hf H (.lst true ((sortR rs).map (rowF fl))) v H' → Q v H') : wpAny (model X.prog X.w) X.A (call (.builtin "sorted") [x]) (EP X pins σ Q) X.xe s := by
  have hmem : ∀ a ∈ as, ∃ r ∈ rs, TupB fl Hf a (r.map V.int) := fun a ha => by
    obtain ⟨i, hi⟩ := List.getElem?_of_mem ha
    obtain ⟨r, h1, h2⟩ := hr i a hi
    exact ⟨r, List.mem_of_getElem? h1, h2⟩
  have ers : as.map (fun a => rowAt Hf (.ref a)) = rs := by
    refine List.ext_getElem? fun i => ?_
    rw [List.getElem?_map]
    cases e : as[i]? with
    | none =>
      have : rs[i]? = none := List.getElem?_eq_none_iff.mpr (by have := List.getElem?_eq_none_iff.mp e; omega)
      rw [this]; rfl
    | some a =>
      obtain ⟨r, h1, h2⟩ := hr i a e
      rw [h1]; simp [rowAt_ref h2]
  have rows : ∀ v ∈ as.map Value.ref, IsRow s.heap v (rowAt Hf v) ∧ rowAt Hf v ≠ [] := fun v hv => by
    obtain ⟨a, ha, rfl⟩ := List.mem_map.mp hv
    obtain ⟨r, hm, h⟩ := hmem a ha
    rw [rowAt_ref h]
    refine ⟨is_row I (h.sq sb), fun e => ?_⟩
    have := List.all_eq_true.mp hne r hm
    rw [e] at this; cases this
  refine sorted_coll (swo_row (rowAt Hf)) hx (by simpa using hz) (fun h2 h₁ tk a' ha' kk => ?_) fun out h1 h' tk hs hb k1 k2 hat => ?_
  · refine row_sortable (s := { s with heap := h₁, toks := tk }) (by omega) (fun v hv => ⟨(rows v hv).1.keeps fun b o e _ => (kk b o e).2, (rows v hv).2⟩) fun o e => ?_
    have e' : some o = some (seqObj "list" (as.map Value.ref).toArray 0) := e.symm.trans ha'
    cases e'
    intro c
    exact absurd (Value.type.inj c) (by decide)
  · obtain ⟨n, hat⟩ := hat
    have hall : ∀ v ∈ out, ∃ a ∈ as, v = Value.ref a := fun v hv => by
      obtain ⟨a, ha, e⟩ := List.mem_map.mp (hb.perm.mem_iff.mp hv)
      exact ⟨a, ha, e.symm⟩
    obtain ⟨bs, rfl⟩ : ∃ bs : List Addr, out = bs.map Value.ref := by
      refine ⟨out.map fun | .ref a => a | _ => 0, ?_⟩
      rw [List.map_map]
      conv => lhs; rw [← List.map_id out]
      refine List.map_congr_left fun v hv => ?_
      obtain ⟨a, _, rfl⟩ := hall v hv
      rfl
    have hbs : ∀ b ∈ bs, ∃ r : List Int, TupB fl Hf b (r.map V.int) := fun b hb' => by
      obtain ⟨a, ha, e⟩ := hall (.ref b) (List.mem_map.mpr ⟨b, hb', rfl⟩)
      cases e
      obtain ⟨r, _, h⟩ := hmem b ha
      exact ⟨r, h⟩
    have es : bs.map (fun a => rowAt Hf (.ref a)) = sortR rs := by
      refine sortR_of ?_ ?_
      · rw [← ers]
        have p := hb.perm.map (rowAt Hf)
        rw [List.map_map, List.map_map] at p
        exact p
      · have p : ((bs.map Value.ref).map (rowAt Hf)).Pairwise rowLe := List.pairwise_map.mpr hs
        rw [List.map_map] at p
        exact p
    have I1 : L2.Inv X pins σ H { s with heap := h1, toks := tk } := I.kept k1
    have hlen : (bs.map V.ref).length ≤ sizeLine := by
      have := hb.perm.length_eq
      simp only [List.length_map] at this ⊢
      omega
    have hv : Vals (bs.map V.ref) (bs.map Value.ref) := vals_refs bs
    have I2 : L2.Inv X pins σ (upd H h1.objs.size (.lst (bs.map V.ref))) { s with heap := h', toks := tk } := I1.laid (t' := tk) k2 (Nat.le_refl _) ⟨hlen, _, n, hv, hat⟩
    refine ⟨.ref h1.objs.size, _, I2, rfl, q _ _ (.lst sb (I1.hok.fresh (Nat.le_refl _)) ?_)⟩
    rw [← es]
    exact RFs_rows bs hbs
where vals_refs : ∀ bs : List Addr, Vals (bs.map V.ref) (bs.map Value.ref)
  | [] => .nil
  | b :: bs => .cons rfl (vals_refs bs)
end
end Mini
set_option linter.all false
set_option maxRecDepth 10000
/-! M3d: built-ins by values. -/
namespace Mini
open PySem PySem.Spec L2

def tyOf : D → String
  | .non => "NoneType"
  | .bl _ => "bool"
  | .int _ => "int"
  | .str _ => "str"
  | .tup _ => "tuple"
  | .raw _ => "tuple"
  | .lst _ _ => "list"
  | .dK _ _ _ => "dict"
  | .dT _ _ _ => "dict"
  | .scr _ => "list"
def Ty.nm : Ty → String
  | .int => "int"
  | .bool => "bool"
  | .tuple => "tuple"
  | .str => "str"

section
variable {X : Cx} {pins : List (Addr × Obj)} {σ : L2.St} {Hf H : Hp} {s : Shared}
theorem kit_opd {d : D} {x : V} {u : Value} (I : L2.Inv X pins σ H s) (sb : Sub Hf H) (h : Opd X.K Hf H d x) (rx : RelV x u) :
    ∃ P : Heap → Prop, PySem.W.KitX X.K u (.type (tyOf d)) P ∧ P s.heap ∧ u ≠ .builtin "__main__.__loader__#opaque" := by
  cases d with
  | non => cases h.non; cases (show u = Value.none from rx); exact ⟨_, PySem.W.kitx_none, True.intro, fun z => nomatch z⟩
  | bl y => cases h.bl; cases (show u = Value.bool y from rx); exact ⟨_, PySem.W.kitx_bool, True.intro, fun z => nomatch z⟩
  | int i => cases h.int; obtain ⟨t, q⟩ := (show ∃ t, u = Value.int i t from rx); cases q; exact ⟨_, PySem.W.kitx_int, True.intro, fun z => nomatch z⟩
  | str y => cases h.str; obtain ⟨t, q⟩ := (show ∃ t, u = Value.str y t from rx); cases q; exact ⟨_, PySem.W.kitx_str, True.intro, fun z => nomatch z⟩
  | tup xs =>
    obtain ⟨a, its, rfl, ⟨o, h1, h2, _⟩, _⟩ := opd_tup_heap I sb h rx
    exact ⟨_, PySem.W.kitx_tuple, ⟨o, h1, h2⟩, fun z => nomatch z⟩
  | raw xs =>
    obtain ⟨a, its, rfl, ⟨o, h1, h2, _⟩, _⟩ := opd_raw_heap I sb h rx
    exact ⟨_, PySem.W.kitx_tuple, ⟨o, h1, h2⟩, fun z => nomatch z⟩
  | lst m xs =>
    obtain ⟨a, its, rfl, ⟨o, h1, h2, _⟩, _⟩ := opd_lst_heap I sb h rx
    exact ⟨_, PySem.W.kitx_list, ⟨o, h1, h2⟩, fun z => nomatch z⟩
  | dK m ks vs =>
    obtain ⟨a, kvs, rfl, h1, _⟩ := h.dK sb
    cases rx
    obtain ⟨_, _, vs, _, o, es, ep, h1, h2, _⟩ := dk_rd I.hok h1
    exact ⟨_, PySem.W.kitx_dict, ⟨o, h1, h2.1⟩, fun z => nomatch z⟩
  | dT m ks vs =>
    obtain ⟨a, kvs, rfl, h1, _⟩ := h.dT sb
    cases rx
    obtain ⟨_, _, xs, _, o, es, ep, h1, h2, _⟩ := dt_rd I.hok h1
    exact ⟨_, PySem.W.kitx_dict, ⟨o, h1, h2.1⟩, fun z => nomatch z⟩
  | scr ns =>
    obtain ⟨f, h⟩ := h
    simp only [RV, RF] at h
    obtain ⟨_, a, rfl, h⟩ := h
    cases rx
    obtain ⟨its, _, ⟨o, n, h1, h2, _⟩, _⟩ := I.list (SqL.ext (.of sb) h)
    exact ⟨_, PySem.W.kitx_list, ⟨o, h1, h2⟩, fun z => nomatch z⟩
def rIsiD (K : PySem.W.Frag) (t : Ty) : List V → Hp → VK → Prop := fun xs H Q => ∃ Hf d x, xs = [x, .ty t.nm] ∧ Sub Hf H ∧ Opd K Hf H d x ∧ Q (.bl (isiD t d)) H
theorem kit_dec (t : Ty) (d : D) : kitB (tyOf d) t.nm = some (isiD t d) := by
  cases t <;> cases d <;> simp only [tyOf, Ty.nm, isiD] <;> decide +kernel
theorem call_isiD (t : Ty) : CallR X (.builtin "isinstance") (rIsiD X.K t) := by
  intro pins s σ H xs us Q I r h
  obtain ⟨Hf, d, x, rfl, sb, hd, q⟩ := h
  obtain ⟨u1, u2, rfl, r1, r2⟩ := vals2 r
  cases (show u2 = Value.type t.nm from r2)
  obtain ⟨P, Z, p, hx⟩ := kit_opd I sb hd r1
  exact PySem.W.kia_one Z I.kIn p (kit_ty (kit_dec t d)) hx fun tk => ⟨.bl _, H, I.tok tk, rfl, q⟩


/-! ### data as they are read by the library -/
/-- the table of modules is one of the base's own things -/
def Sys (X : Cx) : Prop := ∃ o, X.base.get? sysModules = some o
theorem ne_sys (hs : Sys X) (I : L2.Inv X pins σ H s) {a : Addr} {o : HO} (h : H a = some o) : a ≠ sysModules := fun e => by
  obtain ⟨ob, hb⟩ := hs
  have := (I.bs _ _ hb).2
  rw [e, this] at h; cases h
theorem ne_sysR (hs : Sys X) (I : L2.Inv X pins σ H s) {a : Addr} {o : HO} (h : Rd H a o) : a ≠ sysModules := by
  rcases h with h | ⟨_, h⟩ <;> exact ne_sys hs I h
theorem reads_key {k : Key} {u : Value} (h : keyIs k u = true) : Reads s.heap u (keyPy k) [] := by
  rcases keyIs_shape h with ⟨i, t, rfl, rfl⟩ | ⟨x, t, rfl, rfl⟩
  · exact Reads.int i t
  · exact Reads.str x t
theorem reads_keyV {k : Key} {u : Value} (h : RelV (kV k) u) : Reads s.heap u (keyPy k) [] := by
  cases k with
  | inl i => obtain ⟨t, rfl⟩ := h; exact Reads.int i t
  | inr i => obtain ⟨t, rfl⟩ := h; exact Reads.str i t
theorem reads_keys : ∀ {ks : List Key} {us : List Value}, Vals (ks.map kV) us → ReadsAll s.heap us (ks.map keyPy) []
  | [], _, .nil => ReadsAll.nil
  | k :: ks, _, .cons h t => by
    have := ReadsAll.cons (reads_keyV (s := s) h) (reads_keys t)
    simpa using this
theorem pairs_keys {w : World} {P : Program} : ∀ {es : List DictEntry} {vs : List (Key × Value)}, Pairs (mixKind P w) es vs → ReadsAll s.heap (es.map (·.key)) ((vs.map (·.1)).map keyPy) []
  | _, _, .nil => ReadsAll.nil
  | _, _, .cons h1 h2 t => by
    have := ReadsAll.cons (reads_key (s := s) h1) (pairs_keys t)
    simpa using this
theorem pairs_vals {w : World} {P : Program} : ∀ {es : List DictEntry} {vs : List (Key × Value)}, Pairs (mixKind P w) es vs → es.map (·.val) = vs.map (·.2)
  | _, _, .nil => rfl
  | _, _, .cons h1 h2 t => by simp [pairs_vals t, h2]
theorem kv_vals : ∀ {kvs : List (Key × V)} {vs : List (Key × Value)}, KV kvs vs → Vals (kvs.map (·.2)) (vs.map (·.2))
  | _, _, .nil => .nil
  | _, _, .cons h t => .cons h.2 (kv_vals t)
theorem zip_fst_py {α : Type} : ∀ (l : List α) (f : α → PyData) (ds : List D), l.length = ds.length → ((l.map f).zip (D.pys ds)).map (·.1) = l.map f ∧ ((l.map f).zip (D.pys ds)).map (·.2) = D.pys ds
  | [], f, [], _ => ⟨rfl, by simp [D.pys]⟩
  | [], f, _ :: _, h => by simp at h
  | _ :: _, f, [], h => by simp at h
  | a :: l, f, d :: ds, h => by
    have q := zip_fst_py l f ds (by simpa using h)
    simp only [D.pys, List.map_cons, List.zip_cons_cons, q.1, q.2, and_self]
mutual
theorem reads_of (hs : Sys X) (I : L2.Inv X pins σ H s) (sb : Sub Hf H) : ∀ (d : D) (v : V) (u : Value) (f : List Addr), RV X.K Hf H d v f → RelV v u → d.py.showable = true → ∃ as, Reads s.heap u d.py as ∧ sysModules ∉ as
  | .non, _, _, _, h, r, _ => by simp only [RV, RF] at h; rw [h.2] at r; cases r; simp only [D.py]; exact ⟨_, Reads.none, by simp⟩
  | .bl b, _, _, _, h, r, _ => by simp only [RV, RF] at h; rw [h.2] at r; cases r; simp only [D.py]; exact ⟨_, Reads.bool b, by simp⟩
  | .int i, _, _, _, h, r, _ => by simp only [RV, RF] at h; rw [h.2] at r; obtain ⟨t, rfl⟩ := r; simp only [D.py]; exact ⟨_, Reads.int i t, by simp⟩
  | .str i, _, _, _, h, r, _ => by simp only [RV, RF] at h; rw [h.2] at r; obtain ⟨t, rfl⟩ := r; simp only [D.py]; exact ⟨_, Reads.str i t, by simp⟩
  | .scr _, _, _, _, _, _, c => by
    exfalso
    simp only [D.py, badPy, PyData.showable, PyData.showableAll, PyData.showableKv, Bool.and_true, Bool.true_and, decide_eq_true_eq] at c
    have e : ((2 : Int) ^ 2000).natAbs = 2 ^ 2000 := by
      rw [Int.natAbs_pow]; rfl
    rw [e, Nat.log2_two_pow] at c
    omega
  | .tup xs, v, u, f, h, r, c => by
    simp only [RV, RF] at h
    obtain ⟨_, a, vs, rfl, h1, h2⟩ := h
    cases r
    obtain ⟨its, rv, ⟨o, ho, hc, n, hd⟩, _⟩ := I.tuple (h1.sq sb)
    simp only [D.py, PyData.showable] at c ⊢
    obtain ⟨as, hr, hn⟩ := readsAll_of hs I sb xs vs its [] (RVs.of_RFs h2) rv c
    exact ⟨_, Reads.tuple ho hc hd hr, hn⟩
  | .raw xs, v, u, f, h, r, c => by
    simp only [RV, RF] at h
    obtain ⟨_, a, vs, rfl, h1, h2⟩ := h
    cases r
    obtain ⟨its, rv, ⟨o, ho, hc, n, hd⟩, _⟩ := I.tuple (.inl (.inl (sb _ _ h1)))
    simp only [D.py, PyData.showable] at c ⊢
    obtain ⟨as, hr, hn⟩ := readsAll_of hs I sb xs vs its [] (RVs.of_RFs h2) rv c
    exact ⟨_, Reads.tuple ho hc hd hr, hn⟩
  | .lst m xs, v, u, f, h, r, c => by
    simp only [D.py, PyData.showable] at c ⊢
    simp only [RV] at h
    rcases h with ⟨_, _, h⟩ | ⟨_, a, vs, g, rfl, _, e3, e4⟩
    · simp only [RF] at h
      obtain ⟨_, a, vs, rfl, h1, h2⟩ := h
      cases r
      have h1' := (Ext.of sb).lst _ _ h1
      obtain ⟨_, its, n, rv, _, e⟩ := inv_lstR I h1'
      obtain ⟨as, hr, hn⟩ := readsAll_of hs I sb xs vs its [] (RVs.of_RFs h2) rv c
      exact ⟨_, Reads.list e rfl rfl hr, by simp only [List.mem_cons, not_or]; exact ⟨fun z => ne_sysR hs I h1' z.symm, hn⟩⟩
    · cases r
      obtain ⟨_, its, n, rv, _, e⟩ := inv_lstR I (.inl e3)
      obtain ⟨as, hr, hn⟩ := readsAll_of hs I sb xs vs its g e4 rv c
      exact ⟨_, Reads.list e rfl rfl hr, by simp only [List.mem_cons, not_or]; exact ⟨fun z => ne_sys hs I e3 z.symm, hn⟩⟩
  | .dK m ks ds, v, u, f, h, r, c => by
    have key : ∀ (a : Addr) (kvs : List (Key × V)) (g : List Addr), v = .ref a → Rd H a (.dK kvs) → kvs.map (·.1) = ks → RVs X.K Hf H ds (kvs.map (·.2)) g → ∃ as, Reads s.heap u (D.dK m ks ds).py as ∧ sysModules ∉ as := by
      rintro a kvs g rfl h1 rfl h2
      cases r
      obtain ⟨_, _, vs, kv, o, es, ep, ho, hex, hd, _, hp, _⟩ := dk_rd I.hok h1
      have hl : (kvs.map (·.1)).length = ds.length := by have := h2.length; simpa using this
      obtain ⟨z1, z2⟩ := zip_fst_py (kvs.map (·.1)) keyPy ds hl
      simp only [D.py, PyData.showable] at c ⊢
      have c2 := (PyData.showableKv_split _ c).2
      rw [z2] at c2
      obtain ⟨as, hr, hn⟩ := readsAll_of hs I sb ds _ _ g h2 (kv_vals kv) c2
      refine ⟨a :: [] ++ as, Reads.dict ho hex.1 hd ?_ ?_, by simp only [List.cons_append, List.nil_append, List.mem_cons, not_or]; exact ⟨fun z => ne_sysR hs I h1 z.symm, hn⟩⟩
      · rw [z1, kv.keys]; exact pairs_keys hp
      · rw [z2, pairs_vals hp]; exact hr
    simp only [RV] at h
    rcases h with ⟨_, _, h⟩ | ⟨_, a, kvs, g, e1, _, e3, e5, e4⟩
    · simp only [RF] at h
      obtain ⟨_, a, kvs, e1, e2, e4, e3⟩ := h
      exact key a kvs [] e1 ((Ext.of sb).dK _ _ e2) e4 (RVs.of_RFs e3)
    · exact key a kvs g e1 (.inl e3) e5 e4
  | .dT m ks ds, v, u, f, h, r, c => by
    have key : ∀ (a : Addr) (kvs : List (List Key × V)) (g : List Addr), v = .ref a → Rd H a (.dT kvs) → kvs.map (·.1) = ks → RVs X.K Hf H ds (kvs.map (·.2)) g → ∃ as, Reads s.heap u (D.dT m ks ds).py as ∧ sysModules ∉ as := by
      rintro a kvs g rfl h1 rfl h2
      cases r
      obtain ⟨_, _, xs, kt, o, es, ep, ho, hex, hd, he, _, _⟩ := dt_rd I.hok h1
      have hl : (kvs.map (·.1)).length = ds.length := by have := h2.length; simpa using this
      obtain ⟨z1, z2⟩ := zip_fst_py (kvs.map (·.1)) (fun k => PyData.tuple (k.map keyPy)) ds hl
      simp only [D.py, PyData.showable] at c ⊢
      have c2 := (PyData.showableKv_split _ c).2
      rw [z2] at c2
      have ev : ∀ {kvs : List (List Key × V)} {xs : List (List Key × Addr × Value)}, KT H kvs xs → Vals (kvs.map (·.2)) ((xs.map (entryOfKey (tupleKind (mixKind X.prog X.w)))).map (·.val)) := by
        intro kvs xs kt
        induction kt with
        | nil => exact .nil
        | cons h t ih => exact .cons h.2.2 ih
      have ek : ∀ {kvs : List (List Key × V)} {xs : List (List Key × Addr × Value)}, KT H kvs xs → ReadsAll s.heap ((xs.map (entryOfKey (tupleKind (mixKind X.prog X.w)))).map (·.key)) ((kvs.map (·.1)).map fun k => .tuple (k.map keyPy)) [] := by
        intro kvs xs kt
        induction kt with
        | nil => exact ReadsAll.nil
        | cons h t ih =>
          rename_i p q _ _
          obtain ⟨its, rv, ⟨o, ho, hc, n, hd⟩, _⟩ := I.tuple (.inl (.inl h.2.1))
          have := ReadsAll.cons (Reads.tuple ho hc hd (reads_keys (s := s) rv)) ih
          simpa [entryOfKey] using this
      obtain ⟨as, hr, hn⟩ := readsAll_of hs I sb ds _ _ g h2 (ev kt) c2
      refine ⟨a :: [] ++ as, Reads.dict ho hex.1 hd ?_ ?_, by simp only [List.cons_append, List.nil_append, List.mem_cons, not_or]; exact ⟨fun z => ne_sysR hs I h1 z.symm, hn⟩⟩
      · rw [z1, he]; exact ek kt
      · rw [z2, he]; exact hr
    simp only [RV] at h
    rcases h with ⟨_, _, h⟩ | ⟨_, a, kvs, g, e1, _, e3, e5, e4⟩
    · simp only [RF] at h
      obtain ⟨_, a, kvs, e1, e2, e4, e3⟩ := h
      exact key a kvs [] e1 ((Ext.of sb).dT _ _ e2) e4 (RVs.of_RFs e3)
    · exact key a kvs g e1 (.inl e3) e5 e4
theorem readsAll_of (hs : Sys X) (I : L2.Inv X pins σ H s) (sb : Sub Hf H) : ∀ (ds : List D) (vs : List V) (us : List Value) (f : List Addr), RVs X.K Hf H ds vs f → Vals vs us → PyData.showableAll (D.pys ds) = true → ∃ as, ReadsAll s.heap us (D.pys ds) as ∧ sysModules ∉ as
  | [], _, _, _, h, r, _ => by simp only [RVs] at h; rw [h.1] at r; cases r; simp only [D.pys]; exact ⟨_, ReadsAll.nil, by simp⟩
  | d :: ds, vs, us, f, h, r, c => by
    simp only [RVs] at h
    obtain ⟨v, t, f1, f2, rfl, _, h1, h2⟩ := h
    cases r with
    | cons r1 r2 =>
      simp only [D.pys, PyData.showableAll, Bool.and_eq_true] at c ⊢
      obtain ⟨as, q1, n1⟩ := reads_of hs I sb d v _ f1 h1 r1 c.1
      obtain ⟨bs, q2, n2⟩ := readsAll_of hs I sb ds t _ f2 h2 r2 c.2
      exact ⟨_, ReadsAll.cons q1 q2, by simp only [List.mem_append, not_or]; exact ⟨n1, n2⟩⟩
end
end
end Mini
set_option linter.all false
set_option maxRecDepth 10000
/-! M3e: built-ins by values, further. -/
namespace Mini
open PySem PySem.Spec L2
section
variable {X : Cx}
theorem cb_len : CallR X (.builtin "len") (rB1 X.K .len) := by
  intro pins s σ H xs us Q I r h
  obtain ⟨Hf, d, x, rr, rfl, sb, hd, hg, q⟩ := h
  cases d <;> try (exact absurd (show (none : Option D) = some rr from hg) (fun z => nomatch z))
  case tup xs =>
    cases hg
    obtain ⟨a, vs, rfl, h1, h2⟩ := hd.tup
    exact call_len_seq pins s σ H _ us Q I r ⟨a, vs, rfl, .inr (h1.sq sb), by rw [h2.length]; exact q _ _ (.int sb)⟩
  case lst m xs =>
    cases hg
    obtain ⟨a, vs, rfl, h1, h2, h3, _⟩ := hd.lst sb
    exact call_len_seq pins s σ H _ us Q I r ⟨a, vs, rfl, .inl (.inl h1), by rw [h2]; exact q _ _ (.int sb)⟩
  case dK m ks vs =>
    cases hg
    obtain ⟨a, kvs, rfl, h1, rfl, _⟩ := hd.dK sb
    obtain ⟨u, rfl, rx⟩ := vals1 r
    cases rx
    exact d_len I h1 fun t s' I' => ⟨.int _, H, I', ⟨t, rfl⟩, by have := q _ _ (Res.int (i := (kvs.map (·.1)).length) sb); simpa using this⟩
theorem cb_tuple : CallR X (.type "tuple") (rB1 X.K .tuple) := by
  intro pins s σ H xs us Q I r h
  obtain ⟨Hf, d, x, rr, rfl, sb, hd, hg, q⟩ := h
  cases d <;> try (exact absurd (show (none : Option D) = some rr from hg) (fun z => nomatch z))
  case tup xs =>
    cases hg
    obtain ⟨a, vs, rfl, h1, h2⟩ := hd.tup
    exact call_tupF pins s σ H _ us Q I r ⟨a, vs, rfl, .inr ⟨h1.sq sb, q _ _ (.same sb (by simp only [RF]; exact ⟨a, vs, rfl, h1, h2⟩))⟩⟩
  case lst m xs =>
    have hg : (if D.pures xs then some (.tup xs) else none) = some rr := hg
    split at hg
    · rename_i hp
      cases hg
      obtain ⟨a, vs, rfl, h1, h2, h3, _⟩ := hd.lst sb
      exact call_tupF pins s σ H _ us Q I r ⟨a, vs, rfl, .inl ⟨.inl h1, fun l o hl ho => q _ _ (.tup sb hl ho (h3 hp))⟩⟩
    · cases hg
theorem cb_rtuple : CallR X (.type "tuple") (rB1 X.K .rtuple) := by
  intro pins s σ H xs us Q I r h
  obtain ⟨Hf, d, x, rr, rfl, sb, hd, hg, q⟩ := h
  cases d <;> try (exact absurd (show (none : Option D) = some rr from hg) (fun z => nomatch z))
  case lst m xs =>
    have hg : (if D.pures xs then some (.raw xs) else none) = some rr := hg
    split at hg
    · rename_i hp
      cases hg
      obtain ⟨a, vs, rfl, h1, h2, h3, _⟩ := hd.lst sb
      exact call_tuple_of pins s σ H _ us Q I r ⟨a, vs, rfl, .inl ⟨.inl h1, fun l hl => q _ _ (.raw sb hl (h3 hp))⟩⟩
    · cases hg
theorem cb_list : CallR X (.type "list") (rB1 X.K .list) := by
  intro pins s σ H xs us Q I r h
  obtain ⟨Hf, d, x, rr, rfl, sb, hd, hg, q⟩ := h
  cases d <;> try (exact absurd (show (none : Option D) = some rr from hg) (fun z => nomatch z))
  case tup xs =>
    cases hg
    obtain ⟨a, vs, rfl, h1, h2⟩ := hd.tup
    exact call_list_of pins s σ H _ us Q I r ⟨a, vs, rfl, .inr (h1.sq sb), fun l hl => q _ _ (.lst sb hl h2)⟩
  case lst m xs =>
    have hg : (if D.pures xs then some (.lst true xs) else none) = some rr := hg
    split at hg
    · rename_i hp
      cases hg
      obtain ⟨a, vs, rfl, h1, h2, h3, _⟩ := hd.lst sb
      exact call_list_of pins s σ H _ us Q I r ⟨a, vs, rfl, .inl (.inl h1), fun l hl => q _ _ (.lst sb hl (h3 hp))⟩
    · cases hg
theorem opd_ints {Hf H : Hp} {m : Bool} {xs : List D} {x : V} {ns : List Int} (sb : Sub Hf H) (hd : Opd X.K Hf H (.lst m xs) x) (e : intsOf xs = some ns) : ∃ a, x = .ref a ∧ Rd H a (.lst (ns.map V.int)) := by
  obtain ⟨a, vs, rfl, h1, h2, h3, _⟩ := hd.lst sb
  exact ⟨a, rfl, by rw [← RFs.ints (h3 (pures_of_intsOf e)) e]; exact h1⟩
theorem opd_intsT {Hf H : Hp} {xs : List D} {x : V} {ns : List Int} (sb : Sub Hf H) (hd : Opd X.K Hf H (.tup xs) x) (e : intsOf xs = some ns) : ∃ a, x = .ref a ∧ SqT X.K H a (ns.map V.int) := by
  obtain ⟨a, vs, rfl, h1, h2⟩ := hd.tup
  exact ⟨a, rfl, by rw [← RFs.ints h2 e]; exact h1.sq sb⟩
theorem opd_bools {Hf H : Hp} {m : Bool} {xs : List D} {x : V} {ns : List Bool} (sb : Sub Hf H) (hd : Opd X.K Hf H (.lst m xs) x) (e : boolsOf xs = some ns) : ∃ a, x = .ref a ∧ Rd H a (.lst (ns.map V.bl)) := by
  obtain ⟨a, vs, rfl, h1, h2, h3, _⟩ := hd.lst sb
  exact ⟨a, rfl, by rw [← RFs.bools (h3 (pures_of_boolsOf e)) e]; exact h1⟩
theorem cb_sum (hc : X.calm = true) : CallR X (.builtin "sum") (rB1 X.K .sum) := by
  intro pins s σ H xs us Q I r h
  obtain ⟨Hf, d, x, rr, rfl, sb, hd, hg, q⟩ := h
  cases d <;> try (exact absurd (show (none : Option D) = some rr from hg) (fun z => nomatch z))
  case lst m xs =>
    obtain ⟨ns, e, rfl⟩ := Option.map_eq_some_iff.mp hg
    obtain ⟨a, rfl, h1⟩ := opd_ints sb hd e
    exact cr_sum hc pins s σ H _ us Q I r ⟨a, ns, rfl, .inl h1, q _ _ (.int sb)⟩
theorem cb_max (hc : X.calm = true) : CallR X (.builtin "max") (rB1 X.K .max) := by
  intro pins s σ H xs us Q I r h
  obtain ⟨Hf, d, x, rr, rfl, sb, hd, hg, q⟩ := h
  cases d <;> try (exact absurd (show (none : Option D) = some rr from hg) (fun z => nomatch z))
  case lst m0 xs =>
    obtain ⟨ns, e, hg⟩ := Option.bind_eq_some_iff.mp hg
    obtain ⟨k, e2, rfl⟩ := Option.map_eq_some_iff.mp hg
    obtain ⟨a, rfl, h1⟩ := opd_ints sb hd e
    have hk := List.max?_eq_some_iff.mp e2
    refine cr_max hc pins s σ H _ us Q I r ⟨a, ns, rfl, .inl h1, List.length_pos_of_mem hk.1, fun m hm hle => ?_⟩
    have : m = k := Int.le_antisymm (hk.2 m hm) (hle k hk.1)
    rw [this]; exact q _ _ (.int sb)
  case tup xs =>
    obtain ⟨ns, e, hg⟩ := Option.bind_eq_some_iff.mp hg
    obtain ⟨k, e2, rfl⟩ := Option.map_eq_some_iff.mp hg
    obtain ⟨a, rfl, h1⟩ := opd_intsT sb hd e
    have hk := List.max?_eq_some_iff.mp e2
    refine cr_maxT hc pins s σ H _ us Q I r ⟨a, ns, rfl, h1, List.length_pos_of_mem hk.1, fun m hm hle => ?_⟩
    have : m = k := Int.le_antisymm (hk.2 m hm) (hle k hk.1)
    rw [this]; exact q _ _ (.int sb)
theorem cb_min (hc : X.calm = true) : CallR X (.builtin "min") (rB1 X.K .min) := by
  intro pins s σ H xs us Q I r h
  obtain ⟨Hf, d, x, rr, rfl, sb, hd, hg, q⟩ := h
  cases d <;> try (exact absurd (show (none : Option D) = some rr from hg) (fun z => nomatch z))
  case lst m0 xs =>
    obtain ⟨ns, e, hg⟩ := Option.bind_eq_some_iff.mp hg
    obtain ⟨k, e2, rfl⟩ := Option.map_eq_some_iff.mp hg
    obtain ⟨a, rfl, h1⟩ := opd_ints sb hd e
    have hk := List.min?_eq_some_iff.mp e2
    refine cr_min hc pins s σ H _ us Q I r ⟨a, ns, rfl, .inl h1, List.length_pos_of_mem hk.1, fun m hm hle => ?_⟩
    have : m = k := Int.le_antisymm (hle k hk.1) (hk.2 m hm)
    rw [this]; exact q _ _ (.int sb)
  case tup xs =>
    obtain ⟨ns, e, hg⟩ := Option.bind_eq_some_iff.mp hg
    obtain ⟨k, e2, rfl⟩ := Option.map_eq_some_iff.mp hg
    obtain ⟨a, rfl, h1⟩ := opd_intsT sb hd e
    have hk := List.min?_eq_some_iff.mp e2
    refine cr_minT hc pins s σ H _ us Q I r ⟨a, ns, rfl, h1, List.length_pos_of_mem hk.1, fun m hm hle => ?_⟩
    have : m = k := Int.le_antisymm (hle k hk.1) (hk.2 m hm)
    rw [this]; exact q _ _ (.int sb)
theorem cb_all (hc : X.calm = true) : CallR X (.builtin "all") (rB1 X.K .all) := by
  intro pins s σ H xs us Q I r h
  obtain ⟨Hf, d, x, rr, rfl, sb, hd, hg, q⟩ := h
  cases d <;> try (exact absurd (show (none : Option D) = some rr from hg) (fun z => nomatch z))
  case lst m xs =>
    obtain ⟨ns, e, rfl⟩ := Option.map_eq_some_iff.mp hg
    obtain ⟨a, rfl, h1⟩ := opd_bools sb hd e
    exact cr_all hc pins s σ H _ us Q I r ⟨a, ns, rfl, .inl h1, q _ _ (.bl sb)⟩
theorem cb_any (hc : X.calm = true) : CallR X (.builtin "any") (rB1 X.K .any) := by
  intro pins s σ H xs us Q I r h
  obtain ⟨Hf, d, x, rr, rfl, sb, hd, hg, q⟩ := h
  cases d <;> try (exact absurd (show (none : Option D) = some rr from hg) (fun z => nomatch z))
  case lst m xs =>
    obtain ⟨ns, e, rfl⟩ := Option.map_eq_some_iff.mp hg
    obtain ⟨a, rfl, h1⟩ := opd_bools sb hd e
    exact cr_any hc pins s σ H _ us Q I r ⟨a, ns, rfl, .inl h1, q _ _ (.bl sb)⟩
theorem cb_int : CallR X (.type "int") (rB1 X.K .int) := by
  intro pins s σ H xs us Q I r h
  obtain ⟨Hf, d, x, rr, rfl, sb, hd, hg, q⟩ := h
  cases d <;> try (exact absurd (show (none : Option D) = some rr from hg) (fun z => nomatch z))
  case bl b =>
    cases hg
    exact call_int1 pins s σ H _ us Q I r (.inr ⟨b, by rw [hd.bl], q _ _ (.int sb)⟩)
  case int i =>
    cases hg
    exact call_int1 pins s σ H _ us Q I r (.inl ⟨i, by rw [hd.int], q _ _ (.int sb)⟩)
theorem cb_abs : CallR X (.builtin "abs") (rB1 X.K .abs) := by
  intro pins s σ H xs us Q I r h
  obtain ⟨Hf, d, x, rr, rfl, sb, hd, hg, q⟩ := h
  cases d <;> try (exact absurd (show (none : Option D) = some rr from hg) (fun z => nomatch z))
  case int i =>
    cases hg
    exact call_abs pins s σ H _ us Q I r ⟨_, by rw [hd.int], q _ _ (.int sb)⟩
theorem Res.widen {K : PySem.W.Frag} {Hf Hf2 H H' : Hp} {r : D} {v : V} (h1 : ∀ a o, Hf a = some o → Hf2 a = some o) (h2 : ∀ a o, Hf2 a = some o → Hf a = some o ∨ ∃ vs, H a = some (.tup vs))
    (h : Res K Hf2 H r v H') : Res K Hf H r v H' := by
  obtain ⟨Hf', f, e1, e2, e3, e4, e5, e6, e7⟩ := h
  refine ⟨Hf', f, e1, fun a o e => e2 a o (h1 a o e), e3, fun a o e => ?_, e5, e6, e7⟩
  rcases e4 a o e with q | q | q
  · rcases h2 a o q with z | z
    · exact .inl z
    · exact .inr (.inr z)
  · exact .inr (.inl q)
  · exact .inr (.inr q)
/-- what is read of the tuples at bs, too -/
def withT (Hf H : Hp) (bs : List Addr) : Hp := fun a => match Hf a with
  | some o => some o
  | none => if a ∈ bs then H a else none
theorem withT_old {Hf H : Hp} {bs : List Addr} : ∀ a o, Hf a = some o → withT Hf H bs a = some o := fun a o e => by unfold withT; rw [e]
theorem withT_at {Hf H : Hp} {bs : List Addr} (sb : Sub Hf H) {a : Addr} {o : HO} (ha : a ∈ bs) (e : H a = some o) : withT Hf H bs a = some o := by
  unfold withT
  cases q : Hf a with
  | some o' => rw [sb a o' q] at e; exact e
  | none => simp only [ha, if_true]; exact e
theorem withT_sub {Hf H : Hp} {bs : List Addr} (sb : Sub Hf H) : Sub (withT Hf H bs) H := fun a o e => by
  unfold withT at e
  cases q : Hf a with
  | some o' => rw [q] at e; cases e; exact sb a _ q
  | none =>
    rw [q] at e
    simp only at e
    split at e
    · exact e
    · cases e
theorem withT_new {Hf H : Hp} {bs : List Addr} (hb : ∀ b ∈ bs, ∃ vs, H b = some (.tup vs)) : ∀ a o, withT Hf H bs a = some o → Hf a = some o ∨ ∃ vs, H a = some (.tup vs) := fun a o e => by
  unfold withT at e
  cases q : Hf a with
  | some o' => rw [q] at e; exact .inl e
  | none =>
    rw [q] at e
    simp only at e
    split at e
    · rename_i h; exact .inr (hb a h)
    · cases e
theorem isKeys_at {H : Hp} {kvs : List (List Key × V)} {bs : List Addr} (h : IsKeys H kvs bs) : bs.length = kvs.length ∧ (∀ b ∈ bs, ∃ vs, H b = some (.tup vs)) ∧ ∀ (i : Nat) (b : Addr), bs[i]? = some b → ∃ k, (kvs.map (·.1))[i]? = some k ∧ H b = some (.tup (k.map kV)) := by
  unfold IsKeys at h
  induction h with
  | nil => exact ⟨rfl, (fun b hb => nomatch hb), fun i b e => by simp at e⟩
  | cons h t ih =>
    obtain ⟨i1, i2, i3⟩ := ih
    refine ⟨by simp [i1], fun b hb => ?_, fun i b e => ?_⟩
    · rcases List.mem_cons.mp hb with rfl | hb
      · exact ⟨_, h⟩
      · exact i2 b hb
    · cases i with
      | zero => simp at e; subst e; exact ⟨_, rfl, h⟩
      | succ i =>
        obtain ⟨k, h1, h2⟩ := i3 i b (by simpa using e)
        exact ⟨k, by simpa using h1, h2⟩
theorem Collects.dictT {pins : List (Addr × Obj)} {σ : L2.St} {H : Hp} {s : Shared} {d : Addr} {kvs : List (List Key × V)} (hc : X.calm = true) (I : L2.Inv X pins σ H s) (hd : Rd H d (.dT kvs)) :
    ∃ bs : List Addr, IsKeys H kvs bs ∧ bs.length ≤ sizeLine ∧ Collects X.prog X.w X.A.in1 s (.ref d) (bs.map Value.ref) := by
  obtain ⟨z, hs, ks, pr, o, es, ep, ho, hx, hdt, he, hn⟩ := (show ObjOk X.prog X.w H s.heap d (.dT kvs) from hd.ok I.hok)
  have l1 : es.size = ks.length := size_of_entries he
  have l2 : kvs.length = ks.length := Paired.length pr
  refine ⟨ks.map fun x => x.2.1, isKeys_of pr, by rw [List.length_map]; omega, fun E Q q => ?_⟩
  refine PySem.W.kdu_collect (kdl_raw hs hx hdt) (I.ok.hd hc) ho (by omega) fun h' tk acc' kp it => ?_
  have ea : acc'.toList = (ks.map fun x => x.2.1).map Value.ref := by
    have hl : acc'.toList.length = ks.length := by rw [Array.length_toList, it.1]; exact l1
    apply List.ext_getElem?
    intro j
    rw [List.map_map, List.getElem?_map]
    cases hj : acc'.toList[j]? with
    | none =>
      have h1 := List.getElem?_eq_none_iff.mp hj
      rw [List.getElem?_eq_none (by omega)]
      all_goals rfl
    | some v =>
      obtain ⟨en, hen, hv⟩ := it.2 j v (by rw [← Array.getElem?_toList]; exact hj)
      have qe := entry_at he j
      rw [hen] at qe
      cases hb : ks[j]? with
      | none =>
        rw [hb] at qe
        exact nomatch (show some en = none from qe)
      | some b =>
        rw [hb] at qe
        have e2 : en = entryOfKey (tupleKind (mixKind X.prog X.w)) b := Option.some.inj qe
        rw [hv, e2]
        all_goals rfl
  rw [ea]
  exact q h' tk kp
theorem keysInt_kV : ∀ {k : List Key} {r : List Int}, keysInt k = some r → k.map kV = r.map V.int
  | [], r, e => by simp only [keysInt, Option.some.injEq] at e; subst e; rfl
  | .inl i :: k, r, e => by
    simp only [keysInt, keyInt, Option.bind_some] at e
    obtain ⟨is, h1, rfl⟩ := Option.map_eq_some_iff.mp e
    simp [keysInt_kV h1, kV]
  | .inr i :: k, r, e => by simp [keysInt, keyInt] at e
theorem keysRows_at : ∀ {ks : List (List Key)} {rs : List (List Int)}, keysRows ks = some rs → ks.length = rs.length ∧ ∀ (i : Nat) (k : List Key), ks[i]? = some k → ∃ r, rs[i]? = some r ∧ keysInt k = some r
  | [], rs, e => by simp only [keysRows, Option.some.injEq] at e; subst e; simp
  | k :: ks, rs, e => by
    simp only [keysRows] at e
    obtain ⟨r, h1, e⟩ := Option.bind_eq_some_iff.mp e
    obtain ⟨rs', h2, rfl⟩ := Option.map_eq_some_iff.mp e
    obtain ⟨l, ih⟩ := keysRows_at h2
    refine ⟨by simp [l], fun i j hj => ?_⟩
    cases i with
    | zero => simp at hj; subst hj; exact ⟨r, rfl, h1⟩
    | succ i => simpa using ih i j (by simpa using hj)
theorem cb_sorted (hc : X.calm = true) : CallR X (.builtin "sorted") (rB1 X.K .sorted) := by
  intro pins s σ H xs us Q I r h
  obtain ⟨Hf, d, x, rr, rfl, sb, hd, hg, q⟩ := h
  obtain ⟨u, rfl, rx⟩ := vals1 r
  have hg : sortedD d = some rr := hg
  -- the items of a list or a tuple
  have core : ∀ (xs : List D) (vs : List V) (its : List Value) (a : Addr), u = .ref a → sortedD.sortedL xs = some rr → Vals vs its → (D.pures xs = true → RFs X.K Hf xs vs) → its.length ≤ sizeLine → Collects X.prog X.w X.A.in1 s (.ref a) its →
      wpAny (model X.prog X.w) X.A (call (.builtin "sorted") [u]) (EP X pins σ Q) X.xe s := by
    rintro xs vs its a rfl hg rv hr hz hcol
    unfold sortedD.sortedL at hg
    split at hg
    · rename_i ns e
      cases hg
      have e1 := RFs.ints (hr (pures_of_intsOf e)) e
      subst e1
      exact sortI_run I sb hcol hz rv.ints q
    · split at hg
      · rename_i rs e
        split at hg
        · rename_i hne
          cases hg
          obtain ⟨as, e1, e2, e3⟩ := rowsOf_V (hr (pures_of_rowsOf e)) e
          subst e1
          have e4 := refs_at rv
          subst e4
          exact sortR_run false I sb hcol (by simpa using hz) e2 e3 hne q
        · cases hg
      · obtain ⟨rs, e, hg⟩ := Option.bind_eq_some_iff.mp hg
        split at hg
        · rename_i hne
          cases hg
          obtain ⟨as, e1, e2, e3⟩ := rowsRawOf_V (hr (pures_of_rowsRawOf e)) e
          subst e1
          have e4 := refs_at rv
          subst e4
          exact sortR_run true I sb hcol (by simpa using hz) e2 e3 hne q
        · cases hg
  unfold sortedD at hg
  split at hg
  · obtain ⟨a, vs, rfl, h1, h2, h3, _⟩ := hd.lst sb
    cases rx
    obtain ⟨hz, its, n, rv, hl, e⟩ := inv_lstR I h1
    exact core _ vs its a rfl hg rv h3 (by omega) (.list ⟨_, e, rfl, _, rfl⟩ (by omega))
  · obtain ⟨a, vs, rfl, h1, h2⟩ := hd.tup
    cases rx
    obtain ⟨its, rv, ht, hz⟩ := I.tuple (h1.sq sb)
    have hl := rv.length
    exact core _ vs its a rfl hg rv (fun _ => h2) (by omega) (.tuple ht (by omega))
  · obtain ⟨a, vs, rfl, h1, h2⟩ := hd.raw
    cases rx
    obtain ⟨its, rv, ht, hz⟩ := I.tuple (.inl (.inl (sb _ _ h1)))
    have hl := rv.length
    exact core _ vs its a rfl hg rv (fun _ => h2) (by omega) (.tuple ht (by omega))
  · obtain ⟨rs, e, hg⟩ := Option.bind_eq_some_iff.mp hg
    split at hg
    · rename_i m ks vs0 hne
      cases hg
      obtain ⟨a, kvs, rfl, h1, rfl, _⟩ := hd.dT sb
      cases rx
      obtain ⟨bs, hk, hz, hcol⟩ := Collects.dictT hc I h1
      obtain ⟨k1, k2, k3⟩ := isKeys_at hk
      obtain ⟨r1, r2⟩ := keysRows_at e
      refine sortR_run true I (withT_sub sb) hcol (by omega) (by rw [k1, ← r1]; simp) (fun i b hb => ?_) hne fun v H' hr => q v H' (hr.widen withT_old (withT_new k2))
      obtain ⟨k, e1, e2⟩ := k3 i b hb
      obtain ⟨r', e3, e4⟩ := r2 i k e1
      exact ⟨r', e3, withT_at sb (List.mem_of_getElem? hb) (by rw [e2, keysInt_kV e4])⟩
    · cases hg
  · cases hg
end
end Mini
set_option linter.all false
set_option maxRecDepth 10000
/-! M3g: items of lists, tuples, dicts. -/
namespace PyProof.Rows
open PySem PySem.Spec
/-- a subscript that a builtin's method answers, the answer not told ahead -/
theorem subTail_any {prog : Program} {w : World} {A : Around} {E : Value → Shared → Prop} {s : Shared} {val sl : Expr} {ov iv : Value} {T id : String} {Q : Value → Shared → Prop} (tyv : s.TypeIs ov T)
    (look : typeLookup (.type T) "__getitem__" = pure (some (.builtin id))) (run : wpAny (model prog w) A (getItem ov iv) Q E s) (flat : subscripted sl false ov iv = operate [ov, iv] (getItem ov iv)) : wpAny (model prog w) A (subscriptTail val sl ov iv) Q E s := by
  unfold subscriptTail
  refine wpAny_bind ?_
  rw [getitemInPython_of_ne tyv.not_modules]
  refine wpAny_bind (wpAny_specialOf tyv look ?_)
  have done : wpAny (model prog w) A (subscripted sl false ov iv) (fun r t => wpAny (model prog w) A (letTemporaryGo val ov r >>= fun _ => pure r) Q E t) E s := by
    rw [flat]
    exact wpAny_operating (wpAny_mono run (fun r t ht => wpAny_bind (wpAny_letTemporaryGo (wpAny_pure ht))) fun _ _ z => z)
  first
    | exact wpAny_pure (wpAny_bind done)
    | exact wpAny_bind (wpAny_pure (wpAny_bind done))
    | exact wpAny_bind done
end PyProof.Rows
namespace Mini
open PySem PySem.Spec L2
/-- the value at d[k], within what is owned -/
def ChildV (H : Hp) : D → D → V → V → Prop
  | .lst true xs, .int i, w, u => ∃ a vs j, w = .ref a ∧ H a = some (.lst vs) ∧ ixN xs.length i = some j ∧ vs[j]? = some u
  | .dK true ks ds, k, w, u => ∃ a kvs key, w = .ref a ∧ H a = some (.dK kvs) ∧ keyOf k = some key ∧ valV kvs key = some u
  | .dT true ks ds, k, w, u => ∃ a kvs key, w = .ref a ∧ H a = some (.dT kvs) ∧ keyTOf k = some key ∧ valV kvs key = some u
  | _, _, _, _ => True
def rIxD (K : PySem.W.Frag) : R2 := fun x y H Q => ∃ Hf d e r fd, Sub Hf H ∧ RV K Hf H d x fd ∧ Opd K Hf H e y ∧ ixD d e = some r ∧ ∀ v f, (∀ a ∈ f, a ∈ fd) → RV K Hf H r v f → ChildV H d e x v → Q v H
section
variable {K : PySem.W.Frag}
theorem atI_at {α β : Type} {xs : List α} {ys : List β} {i : Int} {x : α} (hl : xs.length = ys.length) (h : atI xs i = some x) : ∃ j, ixN xs.length i = some j ∧ xs[j]? = some x ∧ ∀ y, ys[j]? = some y → atI ys i = some y := by
  unfold atI at h
  obtain ⟨j, h1, h2⟩ := Option.bind_eq_some_iff.mp h
  refine ⟨j, h1, h2, fun y e => ?_⟩
  unfold atI
  rw [← hl, h1]; exact e
theorem RVs.at_ {Hf H : Hp} : ∀ {ds : List D} {vs : List V} {f : List Addr} {i : Nat} {d : D}, RVs K Hf H ds vs f → ds[i]? = some d → ∃ v g, vs[i]? = some v ∧ RV K Hf H d v g ∧ ∀ a ∈ g, a ∈ f
  | [], vs, f, i, d, h, e => by simp at e
  | x :: ds, vs, f, i, d, h, e => by
    simp only [RVs] at h
    obtain ⟨v, r, f1, f2, rfl, rfl, h1, h2⟩ := h
    cases i with
    | zero => simp at e; subst e; exact ⟨v, f1, rfl, h1, fun a ha => List.mem_append_left _ ha⟩
    | succ i =>
      obtain ⟨w, g, e1, e2, e3⟩ := RVs.at_ (i := i) h2 (by simpa using e)
      exact ⟨w, g, by simpa using e1, e2, fun a ha => List.mem_append_right _ (e3 a ha)⟩
theorem lookK_at {κ : Type} [DecidableEq κ] {α : Type} : ∀ {kvs : List (κ × α)} {ds : List D} {k : κ} {d : D}, ds.length = kvs.length → lookK (kvs.map (·.1)) ds k = some d →
    ∃ (i : Nat) (v : α), ds[i]? = some d ∧ (kvs.map (·.2))[i]? = some v ∧ (kvs.find? fun p => p.1 = k) = some (k, v) ∧ (∃ p, kvs[i]? = some p ∧ p.1 = k) ∧ ∀ (j : Nat) (p : κ × α), j < i → kvs[j]? = some p → p.1 ≠ k
  | [], _, _, _, _, e => by simp [lookK] at e
  | (j, w) :: kvs, [], _, _, hl, e => by simp at hl
  | (j, w) :: kvs, x :: ds, k, d, hl, e => by
    simp only [List.map_cons, lookK] at e
    by_cases hj : j = k
    · rw [if_pos hj] at e
      cases e
      exact ⟨0, w, rfl, rfl, by simp [hj], ⟨(j, w), rfl, hj⟩, fun i p hi => absurd hi (by omega)⟩
    · rw [if_neg hj] at e
      obtain ⟨i, v, h1, h2, h3, ⟨p, h4, h5⟩, h6⟩ := lookK_at (kvs := kvs) (by simpa using hl) e
      refine ⟨i + 1, v, by simpa using h1, by simpa using h2, ?_, ⟨p, by simpa using h4, h5⟩, fun m q hm hq => ?_⟩
      · rw [List.find?_cons_of_neg (by simpa using hj)]; exact h3
      · cases m with
        | zero => simp at hq; subst hq; exact hj
        | succ m => exact h6 m q (by omega) (by simpa using hq)
theorem valV_find {κ : Type} [DecidableEq κ] : ∀ {kvs : List (κ × V)} {k : κ} {v : V}, (kvs.find? fun p => p.1 = k) = some (k, v) → valV kvs k = some v
  | [], _, _, h => by simp at h
  | (j, w) :: kvs, k, v, h => by
    by_cases hj : j = k
    · rw [List.find?_cons_of_pos (by simpa using hj)] at h
      cases h
      rw [valV_pos rfl]
    · rw [List.find?_cons_of_neg (by simpa using hj)] at h
      rw [valV_neg hj]; exact valV_find h
end
section
variable {X : Cx}
theorem ix_D (hu : X.A.units + 1 < cLine) : IxR X (rIxD X.K) := by
  intro value slice pins s σ H x y v u Q I rx ry h hs
  obtain ⟨Hf, d, e, r, fd, sb, hd, he, hg, q⟩ := h
  have dict : ∀ {a : Addr} {w' : V}, x = .ref a → DGet H a y (some w') → Q w' H → wpAny (model X.prog X.w) X.A (PyProof.Rows.subscriptTail value slice v u) (EP X pins σ Q) X.xe s := by
    rintro a w' rfl g q'
    cases rx
    exact PyProof.Rows.subTail_any (dict_typeIs I g) PySem.F.slot_dict_getitem.lookup (d_getItem hu I g ry fun w2 s' I' rw' => ⟨w', H, I', rw', q'⟩) hs
  unfold ixD at hg
  split at hg
  · rename_i xs i
    simp only [RV, RF] at hd
    obtain ⟨rfl, a, vs, rfl, h1, h2⟩ := hd
    obtain ⟨j, e1, e2, e3⟩ := atI_at h2.length.symm hg
    obtain ⟨w, e4, e5⟩ := h2.get e2
    exact ix_tup value slice pins s σ H _ y v u Q I rx ry ⟨a, vs, i, w, rfl, he.int, h1.sq sb, e3 w e4, q w [] (fun _ ha => nomatch ha) (RV.of_RF e5) trivial⟩ hs
  · rename_i m xs i
    simp only [RV] at hd
    rcases hd with ⟨hm, rfl, h⟩ | ⟨hm, a, vs, g, rfl, rfl, h3, h4⟩
    · simp only [RF] at h
      obtain ⟨_, a, vs, rfl, h1, h2⟩ := h
      obtain ⟨j, e1, e2, e3⟩ := atI_at h2.length.symm hg
      obtain ⟨w, e4, e5⟩ := h2.get e2
      subst hm
      exact ix_list value slice pins s σ H _ y v u Q I rx ry ⟨a, vs, i, w, rfl, he.int, .inl ((Ext.of sb).lst _ _ h1), e3 w e4, q w [] (fun _ ha => nomatch ha) (RV.of_RF e5) trivial⟩ hs
    · obtain ⟨j, e1, e2, e3⟩ := atI_at h4.length.symm hg
      obtain ⟨w, gw, e4, e5, e6⟩ := h4.at_ e2
      subst hm
      exact ix_list value slice pins s σ H _ y v u Q I rx ry ⟨a, vs, i, w, rfl, he.int, .inl (.inl h3), e3 w e4, q w gw (fun b hb => List.mem_cons_of_mem _ (e6 b hb)) e5 ⟨a, vs, j, rfl, h3, e1, e4⟩⟩ hs
  · rename_i m ks ds k
    obtain ⟨key, hk, hg⟩ := Option.bind_eq_some_iff.mp hg
    simp only [RV] at hd
    rcases hd with ⟨hm, rfl, h⟩ | ⟨hm, a, kvs, g, rfl, rfl, h3, rfl, h4⟩
    · simp only [RF] at h
      obtain ⟨_, a, kvs, rfl, h1, rfl, h2⟩ := h
      obtain ⟨i, w, e1, e2, e3, _⟩ := lookK_at (by have := h2.length; simpa using this.symm) hg
      obtain ⟨w', e4, e5⟩ := h2.get e1
      rw [e2] at e4; cases e4
      subst hm
      refine dict rfl (w' := w) (.inl ⟨kvs, key, (Ext.of sb).dK _ _ h1, keyOf_V he hk, (valV_find e3).symm⟩) (q w [] (fun _ ha => nomatch ha) (RV.of_RF e5) (by simp only [ChildV]))
    · obtain ⟨i, w, e1, e2, e3, _⟩ := lookK_at (by have := h4.length; simpa using this.symm) hg
      obtain ⟨w', gw, e4, e5, e6⟩ := h4.at_ e1
      rw [e2] at e4; cases e4
      subst hm
      refine dict rfl (w' := w) (.inl ⟨kvs, key, .inl h3, keyOf_V he hk, (valV_find e3).symm⟩) (q w gw (fun b hb => List.mem_cons_of_mem _ (e6 b hb)) e5 ?_)
      simp only [ChildV]
      exact ⟨a, kvs, key, rfl, h3, hk, valV_find e3⟩
  · rename_i m ks ds k
    obtain ⟨key, hk, hg⟩ := Option.bind_eq_some_iff.mp hg
    obtain ⟨b, ey, hb⟩ := keyT_V sb he hk
    simp only [RV] at hd
    rcases hd with ⟨hm, rfl, h⟩ | ⟨hm, a, kvs, g, rfl, rfl, h3, rfl, h4⟩
    · simp only [RF] at h
      obtain ⟨_, a, kvs, rfl, h1, rfl, h2⟩ := h
      obtain ⟨i, w, e1, e2, e3, _⟩ := lookK_at (by have := h2.length; simpa using this.symm) hg
      obtain ⟨w', e4, e5⟩ := h2.get e1
      rw [e2] at e4; cases e4
      subst hm
      refine dict rfl (w' := w) (.inr ⟨kvs, key, b, (Ext.of sb).dT _ _ h1, ey, hb, (valV_find e3).symm⟩) (q w [] (fun _ ha => nomatch ha) (RV.of_RF e5) (by simp only [ChildV]))
    · obtain ⟨i, w, e1, e2, e3, _⟩ := lookK_at (by have := h4.length; simpa using this.symm) hg
      obtain ⟨w', gw, e4, e5, e6⟩ := h4.at_ e1
      rw [e2] at e4; cases e4
      subst hm
      refine dict rfl (w' := w) (.inr ⟨kvs, key, b, .inl h3, ey, hb, (valV_find e3).symm⟩) (q w gw (fun b hb => List.mem_cons_of_mem _ (e6 b hb)) e5 ?_)
      simp only [ChildV]
      exact ⟨a, kvs, key, rfl, h3, hk, valV_find e3⟩
  · cases hg
end
end Mini
set_option linter.all false
set_option maxRecDepth 10000
/-! M3h: changes at a place. -/
namespace Mini
open PySem PySem.Spec L2
section
variable {K : PySem.W.Frag}
theorem RVs.app {Hf H : Hp} : ∀ {ds es : List D} {vs ws : List V} {f g : List Addr}, RVs K Hf H ds vs f → RVs K Hf H es ws g → RVs K Hf H (ds ++ es) (vs ++ ws) (f ++ g)
  | [], es, vs, ws, f, g, h, h2 => by simp only [RVs] at h; obtain ⟨rfl, rfl⟩ := h; exact h2
  | d :: ds, es, vs, ws, f, g, h, h2 => by
    simp only [RVs] at h
    obtain ⟨v, r, f1, f2, rfl, rfl, h1, h3⟩ := h
    simp only [List.cons_append, RVs]
    exact ⟨v, r ++ ws, f1, f2 ++ g, rfl, by simp, h1, RVs.app h3 h2⟩
theorem perm_mid (a b c : List Addr) : (a ++ (b ++ c)).Perm (b ++ (a ++ c)) := by
  rw [← List.append_assoc, ← List.append_assoc]
  exact (List.perm_append_comm (l₁ := a) (l₂ := b)).append_right c
/-- one of the items, and another in its place -/
theorem RVs.focus {Hf H : Hp} : ∀ {ds : List D} {vs : List V} {f : List Addr} {i : Nat} {d : D}, RVs K Hf H ds vs f → ds[i]? = some d →
    ∃ v g rest, vs[i]? = some v ∧ f.Perm (g ++ rest) ∧ RV K Hf H d v g ∧ RVs K Hf H (ds.eraseIdx i) (vs.eraseIdx i) rest ∧
      ∀ (Hf' H' : Hp) (d' : D) (v' : V) (g' : List Addr), Ext Hf Hf' → (∀ a ∈ rest, H' a = H a) → RV K Hf' H' d' v' g' → ∃ f', f'.Perm (g' ++ rest) ∧ RVs K Hf' H' (ds.set i d') (vs.set i v') f'
  | [], vs, f, i, d, h, e => by simp at e
  | x :: ds, vs, f, i, d, h, e => by
    simp only [RVs] at h
    obtain ⟨v, r, f1, f2, rfl, rfl, h1, h2⟩ := h
    cases i with
    | zero =>
      simp at e; subst e
      refine ⟨v, f1, f2, rfl, List.Perm.refl _, h1, by simpa using h2, fun Hf' H' d' v' g' x k r' => ⟨g' ++ f2, List.Perm.refl _, ?_⟩⟩
      simp only [List.set_cons_zero, RVs]
      exact ⟨v', r, g', f2, rfl, rfl, r', RVs.keep x _ _ _ h2 k⟩
    | succ i =>
      obtain ⟨w, g, rest, e1, e2, e3, e4, e5⟩ := RVs.focus (i := i) h2 (by simpa using e)
      refine ⟨w, g, f1 ++ rest, by simpa using e1, (e2.append_left f1).trans (perm_mid _ _ _), e3, ?_, fun Hf' H' d' v' g' x k r' => ?_⟩
      · simp only [List.eraseIdx_cons_succ, RVs]
        exact ⟨v, _, f1, rest, rfl, rfl, h1, e4⟩
      · obtain ⟨f', h3, h4⟩ := e5 Hf' H' d' v' g' x (fun a ha => k a (List.mem_append_right _ ha)) r'
        refine ⟨f1 ++ f', (h3.append_left f1).trans (perm_mid _ _ _), ?_⟩
        simp only [List.set_cons_succ, RVs]
        exact ⟨v, _, f1, f', rfl, rfl, RV.keep x _ _ _ h1 fun a ha => k a (List.mem_append_left _ ha), h4⟩
/-- what a change leaves -/
structure MutR (K : PySem.W.Frag) (Hf H H' : Hp) (c' : D) (w : V) (gs' : List Addr) (y : D) (v : V) (fy gs f : List Addr) : Prop where
  keep : ∀ a, a ∉ gs → H' a = H a
  nd : (gs' ++ fy).Nodup
  sub : ∀ a ∈ gs' ++ fy, a ∈ gs ++ f
  tree : RV K Hf H' c' w gs'
  res : RV K Hf H' y v fy
def rMt (K : PySem.W.Frag) (m : Mt) : V → List V → Hp → VK → Prop := fun w vs H Q => ∃ Hf c xs gs f F y c', Sub Hf H ∧ (gs ++ f).Nodup ∧ RV K Hf H c w gs ∧ RVs K Hf H xs vs f ∧ mtF m xs = some F ∧ F c = some (y, c') ∧
  ∀ v H' gs' fy, MutR K Hf H H' c' w gs' y v fy gs f → Q v H'
def Mt.id : Mt → String
  | .append => "list.append"
  | .extend => "list.extend"
  | .pop => "list.pop"
  | .popAt => "list.pop"
  | .remove => "list.remove"
  | .dpop => "dict.pop"
theorem RVs.one {Hf H : Hp} {d : D} {vs : List V} {f : List Addr} (h : RVs K Hf H [d] vs f) : ∃ v, vs = [v] ∧ RV K Hf H d v f := by
  simp only [RVs] at h
  obtain ⟨v, r, f1, f2, rfl, rfl, h1, rfl, rfl⟩ := h
  exact ⟨v, rfl, by simpa using h1⟩
theorem mtF_one {m : Mt} {xs : List D} {F : D → Option (D × D)} (hm : m = .append ∨ m = .extend ∨ m = .popAt ∨ m = .remove) (h : mtF m xs = some F) : ∃ x, xs = [x] := by
  match xs, h with
  | [], h => rcases hm with rfl | rfl | rfl | rfl <;> exact nomatch (show (none : Option (D → Option (D × D))) = some F from h)
  | [x], _ => exact ⟨x, rfl⟩
  | x :: y :: r, h => rcases hm with rfl | rfl | rfl | rfl <;> exact nomatch (show (none : Option (D → Option (D × D))) = some F from h)
theorem owned_lst {Hf H : Hp} {xs : List D} {w : V} {g : List Addr} (h : RV K Hf H (.lst true xs) w g) : ∃ a vs g0, w = .ref a ∧ g = a :: g0 ∧ H a = some (.lst vs) ∧ RVs K Hf H xs vs g0 := by
  simp only [RV] at h
  rcases h with ⟨h, _⟩ | ⟨_, h⟩
  · cases h
  · exact h
theorem owned_dK {Hf H : Hp} {ks : List Key} {xs : List D} {w : V} {g : List Addr} (h : RV K Hf H (.dK true ks xs) w g) : ∃ a kvs g0, w = .ref a ∧ g = a :: g0 ∧ H a = some (.dK kvs) ∧ kvs.map (·.1) = ks ∧ RVs K Hf H xs (kvs.map (·.2)) g0 := by
  simp only [RV] at h
  rcases h with ⟨h, _⟩ | ⟨_, h⟩
  · cases h
  · exact h
theorem owned_dT {Hf H : Hp} {ks : List (List Key)} {xs : List D} {w : V} {g : List Addr} (h : RV K Hf H (.dT true ks xs) w g) : ∃ a kvs g0, w = .ref a ∧ g = a :: g0 ∧ H a = some (.dT kvs) ∧ kvs.map (·.1) = ks ∧ RVs K Hf H xs (kvs.map (·.2)) g0 := by
  simp only [RV] at h
  rcases h with ⟨h, _⟩ | ⟨_, h⟩
  · cases h
  · exact h
theorem mk_lst {Hf H : Hp} {xs : List D} {a : Addr} {vs : List V} {g : List Addr} (h1 : H a = some (.lst vs)) (h2 : RVs K Hf H xs vs g) : RV K Hf H (.lst true xs) (.ref a) (a :: g) := by
  simp only [RV]
  exact .inr ⟨by simp, a, vs, g, rfl, rfl, h1, h2⟩
theorem mk_dK {Hf H : Hp} {ks : List Key} {xs : List D} {a : Addr} {kvs : List (Key × V)} {g : List Addr} (h1 : H a = some (.dK kvs)) (h3 : kvs.map (·.1) = ks) (h2 : RVs K Hf H xs (kvs.map (·.2)) g) : RV K Hf H (.dK true ks xs) (.ref a) (a :: g) := by
  simp only [RV]
  exact .inr ⟨by simp, a, kvs, g, rfl, rfl, h1, h3, h2⟩
theorem mk_dT {Hf H : Hp} {ks : List (List Key)} {xs : List D} {a : Addr} {kvs : List (List Key × V)} {g : List Addr} (h1 : H a = some (.dT kvs)) (h3 : kvs.map (·.1) = ks) (h2 : RVs K Hf H xs (kvs.map (·.2)) g) : RV K Hf H (.dT true ks xs) (.ref a) (a :: g) := by
  simp only [RV]
  exact .inr ⟨by simp, a, kvs, g, rfl, rfl, h1, h3, h2⟩
/-- one record changed: what lies elsewhere stays -/
theorem RVs.upd_ {Hf H : Hp} {ds : List D} {vs : List V} {f : List Addr} {a : Addr} {o : HO} (h : RVs K Hf H ds vs f) (ha : a ∉ f) : RVs K Hf (upd H a o) ds vs f :=
  RVs.keep (Ext.refl Hf) _ _ _ h fun b hb => upd_ne fun e => ha (by subst e; exact hb)
theorem RV.upd_ {Hf H : Hp} {d : D} {v : V} {f : List Addr} {a : Addr} {o : HO} (h : RV K Hf H d v f) (ha : a ∉ f) : RV K Hf (upd H a o) d v f :=
  RV.keep (Ext.refl Hf) _ _ _ h fun b hb => upd_ne fun e => ha (by subst e; exact hb)
theorem RV.non_ {Hf H : Hp} : RV K Hf H .non .non [] := by simp [RV, RF]
theorem upd_keep {H : Hp} {a : Addr} {o : HO} {g : List Addr} : ∀ b, b ∉ a :: g → upd H a o b = H b := fun b hb => upd_ne fun e => hb (by subst e; exact List.mem_cons_self)
end
section
variable {X : Cx}
theorem mt_D_append : MtR X "list.append" (rMt X.K .append) := by
  intro pins s σ H w vs v us Q I rw rvs h
  obtain ⟨Hf, c, xs, gs, f, F, y, c', sb, nd, hc, hx, hm, hF, q⟩ := h
  obtain ⟨x, rfl⟩ := mtF_one (.inl rfl) hm
  cases hm
  obtain ⟨x1, rfl, hv⟩ := hx.one
  unfold fAppend at hF
  split at hF
  · rename_i ys
    obtain ⟨a, vs0, g, rfl, rfl, h1, h2⟩ := owned_lst hc
    split at hF
    · rename_i hl
      cases hF
      have hd : a ∉ g ++ f := (List.nodup_cons.mp (by simpa using nd)).1
      refine mt_append pins s σ H _ _ v us Q I rw rvs ⟨a, vs0, x1, rfl, rfl, h1, by rw [h2.length]; exact hl, q _ _ (a :: (g ++ f)) [] ⟨upd_keep, by simpa using nd, fun b hb => by simpa using hb, mk_lst upd_same ?_, RV.non_⟩⟩
      have r := RVs.app h2 (show RVs X.K Hf H [x] [x1] f by simp only [RVs]; exact ⟨x1, [], f, [], rfl, by simp, hv, rfl, rfl⟩)
      exact r.upd_ hd
    · cases hF
  · cases hF
theorem mt_D_extend : MtR X "list.extend" (rMt X.K .extend) := by
  intro pins s σ H w vs v us Q I rw rvs h
  obtain ⟨Hf, c, xs, gs, f, F, y, c', sb, nd, hc, hx, hm, hF, q⟩ := h
  obtain ⟨x, rfl⟩ := mtF_one (.inr (.inl rfl)) hm
  cases hm
  obtain ⟨x1, rfl, hv⟩ := hx.one
  unfold fExtend at hF
  split at hF
  · rename_i ys
    obtain ⟨a, vs0, g, rfl, rfl, h1, h2⟩ := owned_lst hc
    split at hF
    · rename_i zs
      obtain ⟨b, vs1, g1, rfl, rfl, h3, h4⟩ := owned_lst hv
      split at hF
      · rename_i hl
        cases hF
        have nd' : (a :: (g ++ b :: g1)).Nodup := by simpa using nd
        have hd : a ∉ g ++ g1 := fun z => (List.nodup_cons.mp nd').1 (by simp only [List.mem_append, List.mem_cons] at z ⊢; exact z.imp id .inr)
        refine mt_extend pins s σ H _ _ v us Q I rw rvs ⟨a, b, vs0, vs1, rfl, rfl, h1, h3, by rw [h2.length, h4.length]; exact hl, q _ _ (a :: (g ++ g1)) [] ⟨upd_keep, ?_, fun b hb => ?_, mk_lst upd_same ((RVs.app h2 h4).upd_ hd), RV.non_⟩⟩
        · have : (a :: (g ++ g1)).Sublist (a :: (g ++ b :: g1)) := List.Sublist.cons_cons a (List.Sublist.append_left (List.sublist_cons_self b g1) g)
          simpa using nd'.sublist this
        · simp only [List.append_nil, List.mem_cons, List.mem_append] at hb ⊢
          rcases hb with hb | hb | hb
          · exact .inl (.inl hb)
          · exact .inl (.inr hb)
          · exact .inr (.inr hb)
      · cases hF
    · cases hF
  · cases hF
theorem MutR.erase {K : PySem.W.Frag} {Hf H : Hp} {xs : List D} {a : Addr} {vs : List V} {g f : List Addr} {i : Nat} {y : D} (nd : (a :: g).Nodup) (h : RVs K Hf H xs vs g) (hy : xs[i]? = some y) :
    ∃ v gs' fy, vs[i]? = some v ∧ MutR K Hf H (upd H a (.lst (vs.eraseIdx i))) (.lst true (xs.eraseIdx i)) (.ref a) gs' y v fy (a :: g) f := by
  obtain ⟨v, g1, rest, e1, e2, e3, e4, _⟩ := h.focus hy
  obtain ⟨n1, n2⟩ := List.nodup_cons.mp nd
  have hm : ∀ b, b ∈ g ↔ b ∈ g1 ++ rest := fun b => e2.mem_iff
  refine ⟨v, a :: rest, g1, e1, upd_keep, ?_, fun b hb => ?_, mk_lst upd_same (e4.upd_ fun z => n1 ((hm a).mpr (List.mem_append_right _ z))), e3.upd_ fun z => n1 ((hm a).mpr (List.mem_append_left _ z))⟩
  · have n3 : (g1 ++ rest).Nodup := e2.nodup_iff.mp n2
    have n4 : (rest ++ g1).Nodup := (List.perm_append_comm (l₁ := g1) (l₂ := rest)).nodup_iff.mp n3
    rw [List.cons_append]
    exact List.nodup_cons.mpr ⟨fun z => n1 ((hm a).mpr (by simp only [List.mem_append] at z ⊢; exact z.symm)), n4⟩
  · simp only [List.cons_append, List.mem_cons, List.mem_append] at hb ⊢
    rcases hb with hb | hb | hb
    · exact .inl hb
    · exact .inr (.inl ((hm b).mpr (List.mem_append_right _ hb)))
    · exact .inr (.inl ((hm b).mpr (List.mem_append_left _ hb)))
theorem dropLast_erase {α : Type} : ∀ xs : List α, xs.dropLast = xs.eraseIdx (xs.length - 1)
  | [] => rfl
  | [x] => rfl
  | x :: y :: xs => by
    have := dropLast_erase (y :: xs)
    simp only [List.dropLast_cons₂, List.length_cons, Nat.add_sub_cancel, List.eraseIdx_cons_succ] at this ⊢
    rw [this]
theorem mt_D_pop : MtR X "list.pop" (rMt X.K .pop) := by
  intro pins s σ H w vs v us Q I rw rvs h
  obtain ⟨Hf, c, xs, gs, f, F, y, c', sb, nd, hc, hx, hm, hF, q⟩ := h
  cases xs with
  | nil =>
    cases hm
    simp only [RVs] at hx
    obtain ⟨rfl, rfl⟩ := hx
    unfold fPop at hF
    split at hF
    · rename_i ys
      obtain ⟨a, vs0, g, rfl, rfl, h1, h2⟩ := owned_lst hc
      obtain ⟨y0, h3, h4⟩ := Option.map_eq_some_iff.mp hF
      cases h4
      obtain ⟨v0, gs', fy, e1, m⟩ := MutR.erase (f := []) (by simpa using nd) h2 h3
      have hl : vs0.length = ys.length := h2.length
      refine mt_pop pins s σ H _ _ v us Q I rw rvs ⟨a, vs0, v0, rfl, rfl, h1, by rw [hl]; exact e1, q v0 _ gs' fy ?_⟩
      rw [dropLast_erase, dropLast_erase, hl]
      exact m
    · cases hF
  | cons x xs => exact nomatch (show (none : Option (D → Option (D × D))) = some F from hm)
theorem mt_D_popAt : MtR X "list.pop" (rMt X.K .popAt) := by
  intro pins s σ H w vs v us Q I rw rvs h
  obtain ⟨Hf, c, xs, gs, f, F, y, c', sb, nd, hc, hx, hm, hF, q⟩ := h
  obtain ⟨x, rfl⟩ := mtF_one (.inr (.inr (.inl rfl))) hm
  cases hm
  obtain ⟨x1, rfl, hv⟩ := hx.one
  unfold fPopAt at hF
  split at hF
  · rename_i ys
    obtain ⟨a, vs0, g, rfl, rfl, h1, h2⟩ := owned_lst hc
    split at hF
    · rename_i i
      obtain ⟨j, h3, hF⟩ := Option.bind_eq_some_iff.mp hF
      obtain ⟨y0, h4, h5⟩ := Option.map_eq_some_iff.mp hF
      cases h5
      have ex : x1 = .int i := (show Opd X.K Hf H (.int i) x1 from ⟨f, hv⟩).int
      subst ex
      obtain ⟨v0, gs', fy, e1, m⟩ := MutR.erase (f := f) (List.nodup_append.mp nd).1 h2 h4
      have hl : vs0.length = ys.length := h2.length
      obtain ⟨z, _⟩ := I.lstM h1
      obtain ⟨b1, b2, b3, b4⟩ := ixN_seq h3
      have hz : (sizeLine : Nat) < 2 ^ 62 := by decide
      refine mt_popAt pins s σ H _ _ v us Q I rw rvs ⟨a, vs0, i, j, v0, rfl, rfl, h1, by omega, by omega, by rw [hl]; exact b1, e1, q v0 _ gs' fy m⟩
    · cases hF
  · cases hF
theorem mt_D_remove : MtR X "list.remove" (rMt X.K .remove) := by
  intro pins s σ H w vs v us Q I rw rvs h
  obtain ⟨Hf, c, xs, gs, f, F, y, c', sb, nd, hc, hx, hm, hF, q⟩ := h
  obtain ⟨x, rfl⟩ := mtF_one (.inr (.inr (.inr rfl))) hm
  cases hm
  obtain ⟨x1, rfl, hv⟩ := hx.one
  unfold fRemove at hF
  split at hF
  · rename_i ys
    obtain ⟨a, vs0, g, rfl, rfl, h1, h2⟩ := owned_lst hc
    split at hF
    · rename_i i ns hns
      split at hF
      · rename_i hmem
        cases hF
        have ex : x1 = .int i := (show Opd X.K Hf H (.int i) x1 from ⟨f, hv⟩).int
        subst ex
        obtain ⟨rfl, h2'⟩ := (RVs.of_pures (pures_of_intsOf hns)).mp h2
        have ev := h2'.ints hns
        subst ev
        have hj : ns[ns.idxOf i]? = some i := by
          rw [List.getElem?_eq_getElem (List.idxOf_lt_length_of_mem hmem)]
          simp
        refine mt_remove pins s σ H _ _ v us Q I rw rvs ⟨a, ns, i, ns.idxOf i, rfl, rfl, h1, hj, fun m hm hq => ?_, ?_⟩
        · have hlt : m < ns.length := (List.getElem?_eq_some_iff.mp hq).1
          have := List.not_of_lt_findIdx (p := (· == i)) (xs := ns) (i := m) (by simpa [List.idxOf] using hm)
          rw [List.getElem?_eq_getElem hlt] at hq
          simp at hq
          simp [hq] at this
        · have ee : ns.eraseIdx (ns.idxOf i) = ns.erase i := (List.erase_eq_eraseIdx_of_idxOf rfl).symm
          rw [ee]
          exact q _ _ [a] [] ⟨upd_keep, by simp, fun b hb => by simp at hb ⊢; exact .inl hb, mk_lst upd_same (RVs.of_RFs (RFs.of_ints _ _)), RV.non_⟩
      · cases hF
    · cases hF
  · cases hF
end
section
variable {κ : Type} [DecidableEq κ]
theorem map_erase {α β : Type} (g : α → β) : ∀ (l : List α) (i : Nat), (l.eraseIdx i).map g = (l.map g).eraseIdx i
  | [], i => rfl
  | x :: l, 0 => rfl
  | x :: l, i + 1 => by simp [map_erase g l i]
theorem setK_set : ∀ (ks : List κ) (ds : List D) (k : κ) (y : D), ds.length = ks.length → setK ks ds k y = if k ∈ ks then ds.set (ks.idxOf k) y else ds
  | [], [], k, y, _ => by simp [setK]
  | [], _ :: _, k, y, h => by simp at h
  | _ :: _, [], k, y, h => by simp at h
  | j :: ks, d :: ds, k, y, h => by
    simp only [setK]
    by_cases e : j = k
    · subst e; simp [List.idxOf_cons]
    · have e' : ¬ k = j := fun z => e z.symm
      rw [if_neg e, setK_set ks ds k y (by simpa using h)]
      have hb : (j == k) = false := beq_eq_false_iff_ne.mpr e
      simp only [List.mem_cons, e', false_or, List.idxOf_cons, hb, cond_false, List.set_cons_succ, Bool.false_eq_true, if_false]
      split <;> rfl
theorem dropKs_erase : ∀ (ks : List κ) (ds : List D) (k : κ), ds.length = ks.length → k ∈ ks → dropKs ks ds k = (ks.eraseIdx (ks.idxOf k), ds.eraseIdx (ks.idxOf k))
  | [], ds, k, _, h => by simp at h
  | _ :: _, [], k, h, _ => by simp at h
  | j :: ks, d :: ds, k, h, hm => by
    simp only [dropKs]
    by_cases e : j = k
    · subst e; simp [List.idxOf_cons]
    · have e' : ¬ k = j := fun z => e z.symm
      have hb : (j == k) = false := beq_eq_false_iff_ne.mpr e
      rw [if_neg e, dropKs_erase ks ds k (by simpa using h) (by simpa [e'] using hm)]
      simp only [List.idxOf_cons, hb, cond_false, List.eraseIdx_cons_succ]
theorem putK_set : ∀ (kvs : List (κ × V)) (k : κ) (v : V), (kvs.map (·.1)).Nodup → k ∈ kvs.map (·.1) → putK kvs k v = kvs.set ((kvs.map (·.1)).idxOf k) (k, v) := by
  intro kvs k v nd hm
  have key : ∀ kvs : List (κ × V), (kvs.map (·.1)).Nodup → k ∈ kvs.map (·.1) → kvs.map (fun kv => if kv.1 = k then (kv.1, v) else kv) = kvs.set ((kvs.map (·.1)).idxOf k) (k, v) := by
    intro kvs
    induction kvs with
    | nil => intro _ h; simp at h
    | cons p r ih =>
      intro nd hm
      simp only [List.map_cons, List.nodup_cons] at nd
      by_cases e : p.1 = k
      · have hno : r.map (fun kv => if kv.1 = k then (kv.1, v) else kv) = r := by
          refine (List.map_congr_left fun q hq => ?_).trans (List.map_id r)
          have : q.1 ≠ k := fun z => nd.1 (List.mem_map.mpr ⟨q, hq, z.trans e.symm⟩)
          simp [this]
        simp only [List.map_cons, e, if_true, hno, List.idxOf_cons, beq_self_eq_true, cond_true, List.set_cons_zero]
      · have e' : ¬ k = p.1 := fun z => e z.symm
        have hb : (p.1 == k) = false := beq_eq_false_iff_ne.mpr e
        simp only [List.map_cons, e, if_false, List.idxOf_cons, hb, cond_false, List.set_cons_succ]
        rw [ih nd.2 (by simpa [e'] using hm)]
  unfold putK
  rw [if_pos, key kvs nd hm]
  obtain ⟨p, hp, e⟩ := List.mem_map.mp hm
  exact List.any_eq_true.mpr ⟨p, hp, by simpa using e⟩
theorem putK_app (kvs : List (κ × V)) (k : κ) (v : V) (hm : k ∉ kvs.map (·.1)) : putK kvs k v = kvs ++ [(k, v)] := by
  unfold putK
  rw [if_neg]
  intro h
  obtain ⟨p, hp, e⟩ := List.any_eq_true.mp h
  exact hm (List.mem_map.mpr ⟨p, hp, by simpa using e⟩)
theorem dropK_erase : ∀ (kvs : List (κ × V)) (k : κ), (kvs.map (·.1)).Nodup → k ∈ kvs.map (·.1) → dropK kvs k = kvs.eraseIdx ((kvs.map (·.1)).idxOf k)
  | [], k, _, h => by simp at h
  | p :: r, k, nd, hm => by
    simp only [List.map_cons, List.nodup_cons] at nd
    unfold dropK
    by_cases e : p.1 = k
    · have hno : r.filter (fun kv => decide (kv.1 ≠ k)) = r := List.filter_eq_self.mpr fun q hq => by
        have : q.1 ≠ k := fun z => nd.1 (List.mem_map.mpr ⟨q, hq, z.trans e.symm⟩)
        simpa using this
      have hp : ¬ decide (p.1 ≠ k) = true := by simpa using e
      rw [List.filter_cons_of_neg (p := fun kv : κ × V => decide (kv.1 ≠ k)) hp, hno]
      simp [List.idxOf_cons, e]
    · have e' : ¬ k = p.1 := fun z => e z.symm
      have hb : (p.1 == k) = false := beq_eq_false_iff_ne.mpr e
      rw [List.filter_cons_of_pos (p := fun kv : κ × V => decide (kv.1 ≠ k)) (by simpa using e)]
      simp only [List.map_cons, List.idxOf_cons, hb, cond_false, List.eraseIdx_cons_succ]
      have ih := dropK_erase r k nd.2 (by simpa [e'] using hm)
      unfold dropK at ih
      rw [ih]
theorem lookK_idx : ∀ (ks : List κ) (ds : List D) (k : κ) (y : D), lookK ks ds k = some y → k ∈ ks ∧ ds[ks.idxOf k]? = some y
  | [], ds, k, y, h => by simp [lookK] at h
  | _ :: _, [], k, y, h => by simp [lookK] at h
  | j :: ks, d :: ds, k, y, h => by
    simp only [lookK] at h
    by_cases e : j = k
    · rw [if_pos e] at h; cases h; subst e; simp [List.idxOf_cons]
    · rw [if_neg e] at h
      have hb : (j == k) = false := beq_eq_false_iff_ne.mpr e
      obtain ⟨h1, h2⟩ := lookK_idx ks ds k y h
      exact ⟨List.mem_cons_of_mem _ h1, by simpa [List.idxOf_cons, hb] using h2⟩
theorem valV_idx : ∀ (kvs : List (κ × V)) (k : κ) (v : V), valV kvs k = some v → (kvs.map (·.2))[(kvs.map (·.1)).idxOf k]? = some v
  | [], k, v, h => by simp [valV] at h
  | p :: r, k, v, h => by
    by_cases e : p.1 = k
    · rw [valV_pos e] at h; cases h; simp [List.idxOf_cons, e]
    · rw [valV_neg e] at h
      have hb : (p.1 == k) = false := beq_eq_false_iff_ne.mpr e
      simpa [List.idxOf_cons, hb] using valV_idx r k v h
theorem lookK_none : ∀ (ks : List κ) (ds : List D) (k : κ), ds.length = ks.length → lookK ks ds k = none → k ∉ ks
  | [], ds, k, _, h => by simp
  | _ :: _, [], k, hl, h => by simp at hl
  | j :: ks, d :: ds, k, hl, h => by
    simp only [lookK] at h
    by_cases e : j = k
    · rw [if_pos e] at h; cases h
    · rw [if_neg e] at h
      have := lookK_none ks ds k (by simpa using hl) h
      simp only [List.mem_cons, not_or]
      exact ⟨fun z => e z.symm, this⟩
end
section
variable {X : Cx} {pins : List (Addr × Obj)} {σ : L2.St} {H : Hp} {s : Shared}
theorem nodup_dK (I : L2.Inv X pins σ H s) {a : Addr} {kvs : List (Key × V)} (h : H a = some (.dK kvs)) : (kvs.map (·.1)).Nodup ∧ kvs.length ≤ sizeLine := by
  obtain ⟨z, _, vs, kv, o, es, ep, _, _, _, _, _, nd⟩ := (show ObjOk X.prog X.w H s.heap a (.dK kvs) from I.hok a _ h)
  exact ⟨by rw [kv.keys]; exact nd, z⟩
theorem nodup_dT (I : L2.Inv X pins σ H s) {a : Addr} {kvs : List (List Key × V)} (h : H a = some (.dT kvs)) : (kvs.map (·.1)).Nodup ∧ kvs.length ≤ sizeLine := by
  obtain ⟨z, _, xs, pr, o, es, ep, _, _, _, _, nd⟩ := (show ObjOk X.prog X.w H s.heap a (.dT kvs) from I.hok a _ h)
  have e : ∀ {l : List (List Key × V)} {m : List (List Key × Addr × Value)}, KT H l m → l.map (·.1) = m.map (·.1) := by
    intro l m q
    induction q with
    | nil => rfl
    | cons h t ih => rw [List.map_cons, List.map_cons, ih, h.1]
  exact ⟨by rw [e pr]; exact nd, z⟩
theorem mt_D_dpop (hu : X.A.units + 1 < cLine) : MtR X "dict.pop" (rMt X.K .dpop) := by
  intro pins s σ H w vs v us Q I rw rvs h
  obtain ⟨Hf, c, xs, gs, f, F, y, c', sb, nd, hc, hx, hm, hF, q⟩ := h
  obtain ⟨k, rfl⟩ : ∃ k, xs = [k, .non] := by
    match xs, hm with
    | [k, .non], _ => exact ⟨k, rfl⟩
    | [], h => exact nomatch (show (none : Option (D → Option (D × D))) = some F from h)
    | [_], h => exact nomatch (show (none : Option (D → Option (D × D))) = some F from h)
    | [_, .bl _], h => exact nomatch (show (none : Option (D → Option (D × D))) = some F from h)
    | [_, .int _], h => exact nomatch (show (none : Option (D → Option (D × D))) = some F from h)
    | [_, .str _], h => exact nomatch (show (none : Option (D → Option (D × D))) = some F from h)
    | [_, .tup _], h => exact nomatch (show (none : Option (D → Option (D × D))) = some F from h)
    | [_, .lst _ _], h => exact nomatch (show (none : Option (D → Option (D × D))) = some F from h)
    | [_, .dK _ _ _], h => exact nomatch (show (none : Option (D → Option (D × D))) = some F from h)
    | [_, .dT _ _ _], h => exact nomatch (show (none : Option (D → Option (D × D))) = some F from h)
    | [_, .scr _], h => exact nomatch (show (none : Option (D → Option (D × D))) = some F from h)
    | _ :: d :: _ :: _, h => cases d <;> exact nomatch (show (none : Option (D → Option (D × D))) = some F from h)
  cases hm
  simp only [RVs] at hx
  obtain ⟨x1, r1, f1, f2, rfl, rfl, hk, x2, r2, f3, f4, rfl, rfl, hn, rfl, rfl⟩ := hx
  have e2 : x2 = .non := (show Opd X.K Hf H .non x2 from ⟨f3, hn⟩).non
  subst e2
  have hf3 : f3 = [] := by simp only [RV] at hn; exact hn.1
  subst hf3
  unfold fDPop at hF
  split at hF
  · rename_i ks ds
    obtain ⟨a, kvs, g, rfl, rfl, h1, rfl, h2⟩ := owned_dT hc
    obtain ⟨key, hkey, hF⟩ := Option.bind_eq_some_iff.mp hF
    obtain ⟨b, rfl, hb⟩ := keyT_V sb ⟨f1, hk⟩ hkey
    obtain ⟨ndk, _⟩ := nodup_dT I h1
    have hl : ds.length = kvs.length := by have := h2.length; simpa using this.symm
    have hl' : ds.length = (kvs.map (·.1)).length := by simpa using hl
    refine L2.DX.mt_popT hu pins s σ H _ _ v us Q I rw rvs ⟨a, kvs, key, b, .non, rfl, rfl, h1, hb, fun v1 hv => ?_, fun hv => ?_⟩
    · split at hF
      · rename_i y0 hy
        split at hF
        · rename_i hp
          cases hF
          obtain ⟨m1, m2⟩ := lookK_idx _ _ _ _ hy
          obtain ⟨v0, g1, rest, e1, e2, e3, e4, _⟩ := h2.focus m2
          obtain ⟨rfl, e3'⟩ := (RV.of_pure hp).mp e3
          have ev : v1 = v0 := by
            obtain ⟨i, v', q1, q2, q3, _⟩ := lookK_at hl hy
            have q4 := valV_find q3
            rw [hv] at q4; cases q4
            obtain ⟨_, q5⟩ := lookK_idx _ _ _ _ hy
            obtain ⟨w1, _, q6, _⟩ := h2.at_ q5
            have z := valV_idx kvs key v1 hv
            rw [e1] at z; cases z; rfl
          subst ev
          have nd1 : (a :: g).Nodup := (List.nodup_append.mp nd).1
          have hm : ∀ b, b ∈ g ↔ b ∈ rest := fun b => by simpa using (e2.mem_iff (a := b))
          refine q v1 _ (a :: rest) [] ⟨upd_keep, ?_, fun b hb => ?_, ?_, RV.of_RF e3'⟩
          · have n2 : rest.Nodup := by simpa using (e2.nodup_iff.mp (List.nodup_cons.mp nd1).2)
            simpa using ⟨fun z => (List.nodup_cons.mp nd1).1 ((hm a).mpr z), n2⟩
          · simp only [List.append_nil, List.mem_cons, List.mem_append] at hb ⊢
            exact .inl (hb.imp id (hm b).mpr)
          · rw [dropKs_erase _ _ _ hl' m1]
            refine mk_dT upd_same (by rw [dropK_erase _ _ ndk m1, map_erase]) ?_
            rw [dropK_erase _ _ ndk m1, map_erase]
            exact e4.upd_ fun z => (List.nodup_cons.mp nd1).1 ((hm a).mpr z)
        · cases hF
      · rename_i hy
        exact absurd (lookK_none _ _ _ hl' hy) (by
          have := hasK_val key kvs
          rw [hv] at this
          simpa [hasK] using this)
    · split at hF
      · rename_i y0 hy
        obtain ⟨i, v', q1, q2, q3, _⟩ := lookK_at hl hy
        rw [valV_find q3] at hv; cases hv
      · cases hF
        refine q .non H (a :: g) [] ⟨fun _ _ => rfl, by simpa using (List.nodup_append.mp nd).1, fun b hb => ?_, mk_dT h1 rfl h2, RV.non_⟩
        simp only [List.append_nil] at hb
        exact List.mem_append_left _ hb
  · cases hF
def rSetD (K : PySem.W.Frag) : V → V → V → Hp → (Hp → Prop) → Prop := fun o i v H Q => ∃ Hf c k x gs f y c', Sub Hf H ∧ (gs ++ f).Nodup ∧ RV K Hf H c o gs ∧ Opd K Hf H k i ∧ RV K Hf H x v f ∧ fSetIx k x c = some (y, c') ∧
  ∀ H' gs', MutR K Hf H H' c' o gs' .non .non [] gs f → Q H'
theorem put_mut {K : PySem.W.Frag} {Hf H : Hp} {κ : Type} [DecidableEq κ] {kvs : List (κ × V)} {ds : List D} {g f : List Addr} {a : Addr} {k : κ} {x : D} {v : V} {o : HO} (ndk : (kvs.map (·.1)).Nodup) (nd : (a :: g ++ f).Nodup) (h2 : RVs K Hf H ds (kvs.map (·.2)) g) (hv : RV K Hf H x v f) :
    ∃ g', (putK kvs k v).map (·.1) = (putT (kvs.map (·.1), ds) (k, x)).1 ∧ RVs K Hf (upd H a o) (putT (kvs.map (·.1), ds) (k, x)).2 ((putK kvs k v).map (·.2)) g' ∧ (a :: g').Nodup ∧ ∀ b ∈ a :: g', b ∈ (a :: g) ++ f := by
  have hl : ds.length = (kvs.map (·.1)).length := by have := h2.length; simpa using this.symm
  have n0 : a ∉ g ++ f := (List.nodup_cons.mp nd).1
  have n1 : (g ++ f).Nodup := (List.nodup_cons.mp nd).2
  unfold putT
  by_cases hm : k ∈ kvs.map (·.1)
  · rw [if_pos hm]
    simp only
    have hi : (kvs.map (·.1)).idxOf k < (kvs.map (·.1)).length := List.idxOf_lt_length_of_mem hm
    obtain ⟨w, g1, rest, e1, e2, e3, e4, e5⟩ := h2.focus (i := (kvs.map (·.1)).idxOf k) (List.getElem?_eq_getElem (by omega))
    have hmem : ∀ b, b ∈ g ↔ b ∈ g1 ++ rest := fun b => e2.mem_iff
    have nf : a ∉ f := fun z => n0 (List.mem_append_right _ z)
    have nr : ∀ b ∈ rest, b ≠ a := fun b hb e => n0 (List.mem_append_left _ ((hmem a).mpr (List.mem_append_right _ (e ▸ hb))))
    obtain ⟨f', p1, p2⟩ := e5 Hf (upd H a o) x v f (Ext.refl Hf) (fun b hb => upd_ne (nr b hb)) (hv.upd_ nf)
    have ek : (kvs.set ((kvs.map (·.1)).idxOf k) (k, v)).map (·.1) = kvs.map (·.1) := by
      rw [List.map_set]
      refine List.ext_getElem? fun i => ?_
      by_cases e : (kvs.map (·.1)).idxOf k = i
      · subst e
        rw [List.getElem?_set_self hi, List.getElem?_eq_getElem hi, List.getElem_idxOf]
      · rw [List.getElem?_set_ne e]
    refine ⟨f', by rw [putK_set _ _ _ ndk hm, ek], ?_, ?_, fun b hb => ?_⟩
    · rw [putK_set _ _ _ ndk hm, List.map_set, setK_set _ _ _ _ hl, if_pos hm]
      exact p2
    · refine List.nodup_cons.mpr ⟨fun z => ?_, p1.nodup_iff.mpr ?_⟩
      · rcases List.mem_append.mp (p1.mem_iff.mp z) with z | z
        · exact nf z
        · exact nr a z rfl
      · refine List.nodup_append.mpr ⟨(List.nodup_append.mp n1).2.1, (List.nodup_append.mp (e2.nodup_iff.mp (List.nodup_append.mp n1).1)).2.1, fun b hb c hc e => ?_⟩
        subst e
        exact (List.nodup_append.mp n1).2.2 b ((hmem b).mpr (List.mem_append_right _ hc)) b hb rfl
    · simp only [List.cons_append, List.mem_cons, List.mem_append] at hb ⊢
      rcases hb with hb | hb
      · exact .inl hb
      · rcases List.mem_append.mp (p1.mem_iff.mp hb) with z | z
        · exact .inr (.inr z)
        · exact .inr (.inl ((hmem b).mpr (List.mem_append_right _ z)))
  · rw [if_neg hm, putK_app _ _ _ hm]
    have r := (RVs.app h2 (show RVs K Hf H [x] [v] f by simp only [RVs]; exact ⟨v, [], f, [], rfl, by simp, hv, rfl, rfl⟩)).upd_ (o := o) n0
    exact ⟨g ++ f, by simp, by simpa using r, by simpa using nd, fun b hb => by simpa using hb⟩
theorem set_D (hu : X.A.units + 1 < cLine) : PSet X (rSetD X.K) := by
  intro pins s σ H o i v ov iv u Q I ro ri rv h
  obtain ⟨Hf, c, k, x, gs, f, y, c', sb, nd, hc, hk, hv, hF, q⟩ := h
  have dict : ∀ {a : Addr} {H' : Hp}, o = .ref a → DPut H a i v H' → Q H' → wpAny (model X.prog X.w) X.A (setItem ov iv u) (fun _ s' => ∃ H', L2.Inv X pins σ H' s' ∧ Q H') X.xe s := by
    rintro a H' rfl g q'
    cases ro
    exact d_setItem hu I g ri rv fun s' I' => ⟨H', I', q'⟩
  unfold fSetIx at hF
  split at hF
  · rename_i xs
    split at hF
    · rename_i n
      obtain ⟨a, vs0, g, rfl, rfl, h1, h2⟩ := owned_lst hc
      obtain ⟨j, hj, e⟩ := Option.map_eq_some_iff.mp hF
      cases e
      obtain ⟨b1, b2, b3, b4⟩ := ixN_seq hj
      obtain ⟨w, g1, rest, e1, e2, e3, e4, e5⟩ := h2.focus (i := j) (List.getElem?_eq_getElem b2)
      have n0 : a ∉ g ++ f := (List.nodup_cons.mp nd).1
      have n1 : (g ++ f).Nodup := (List.nodup_cons.mp nd).2
      have hmem : ∀ b, b ∈ g ↔ b ∈ g1 ++ rest := fun b => e2.mem_iff
      have nf : a ∉ f := fun z => n0 (List.mem_append_right _ z)
      have nr : ∀ b ∈ rest, b ≠ a := fun b hb e => n0 (List.mem_append_left _ ((hmem a).mpr (List.mem_append_right _ (e ▸ hb))))
      obtain ⟨f', p1, p2⟩ := e5 Hf (upd H a (.lst (vs0.set j v))) x v f (Ext.refl Hf) (fun b hb => upd_ne (nr b hb)) (hv.upd_ nf)
      refine set_list pins s σ H _ i v ov iv u Q I ro ri rv ⟨a, vs0, n, j, rfl, hk.int, h1, by rw [h2.length]; exact hj, q _ (a :: f') ⟨upd_keep, ?_, fun b hb => ?_, mk_lst upd_same p2, RV.non_⟩⟩
      · rw [List.append_nil]
        refine List.nodup_cons.mpr ⟨fun z => ?_, p1.nodup_iff.mpr ?_⟩
        · rcases List.mem_append.mp (p1.mem_iff.mp z) with z | z
          · exact nf z
          · exact nr a z rfl
        · refine List.nodup_append.mpr ⟨(List.nodup_append.mp n1).2.1, (List.nodup_append.mp (e2.nodup_iff.mp (List.nodup_append.mp n1).1)).2.1, fun b hb c hc e => ?_⟩
          subst e
          exact (List.nodup_append.mp n1).2.2 b ((hmem b).mpr (List.mem_append_right _ hc)) b hb rfl
      · rw [List.append_nil] at hb
        simp only [List.cons_append, List.mem_cons, List.mem_append] at hb ⊢
        rcases hb with hb | hb
        · exact .inl hb
        · rcases List.mem_append.mp (p1.mem_iff.mp hb) with z | z
          · exact .inr (.inr z)
          · exact .inr (.inl ((hmem b).mpr (List.mem_append_right _ z)))
    · cases hF
  · rename_i ks ds
    obtain ⟨a, kvs, g, rfl, rfl, h1, rfl, h2⟩ := owned_dK hc
    obtain ⟨key, hkey, hF⟩ := Option.bind_eq_some_iff.mp hF
    split at hF
    · rename_i hl
      cases hF
      obtain ⟨ndk, _⟩ := nodup_dK I h1
      obtain ⟨g', p1, p2, p3, p4⟩ := put_mut (k := key) (o := .dK (putK kvs key v)) ndk nd h2 hv
      exact dict rfl (.inl ⟨kvs, key, h1, keyOf_V hk hkey, by simpa using hl, rfl⟩) (q _ (a :: g') ⟨upd_keep, by simpa using p3, fun b hb => p4 b (by simpa using hb), mk_dK upd_same p1 p2, RV.non_⟩)
    · cases hF
  · rename_i ks ds
    obtain ⟨a, kvs, g, rfl, rfl, h1, rfl, h2⟩ := owned_dT hc
    obtain ⟨key, hkey, hF⟩ := Option.bind_eq_some_iff.mp hF
    obtain ⟨b, ei, hb⟩ := keyT_V sb hk hkey
    split at hF
    · rename_i hl
      cases hF
      obtain ⟨ndk, _⟩ := nodup_dT I h1
      obtain ⟨g', p1, p2, p3, p4⟩ := put_mut (k := key) (o := .dT (putK kvs key v)) ndk nd h2 hv
      exact dict rfl (.inr ⟨kvs, key, b, h1, ei, hb, by simpa using hl, rfl⟩) (q _ (a :: g') ⟨upd_keep, by simpa using p3, fun b hb => p4 b (by simpa using hb), mk_dT upd_same p1 p2, RV.non_⟩)
    · cases hF
  · cases hF
end
end Mini
set_option linter.all false
set_option maxRecDepth 100000
/-! M3i: enumerate(tuple). -/
namespace PySem
open AutoSeq1 (wpAny_loadPart')
set_option maxHeartbeats 1000000 in
theorem mini_enum_new {v : Value} {o : Obj} {G : Heap → Prop} (B : PySem.Begins v o G) :
    Meets (Builtin.«enumerate.__new__» ⟨[.type "enumerate", v], []⟩) (fun _ R s => G s.heap ∧
      R (.ok (.ret (.ref (s.heap.push o).objs.size))) { s with heap := (s.heap.push o).push { cls := .type "enumerate", data := .fields #[.none, .bool false, .ref s.heap.objs.size, rawInt 0, .none, .none] } }) :=
  .of_wp fun prog w A R s h => by
    obtain ⟨hp, g, d, tk, os⟩ := s
    obtain ⟨h1, h⟩ := h
    have sube := sub_enumerate
    have it1 : ∀ {A' : Around} {E : Value → Shared → Prop} {Q : Value → Shared → Prop}, Q (.ref hp.objs.size) ⟨hp.push o, g, d, tk, os⟩ → wpAny (model prog w) A' (pyIter v) Q E ⟨hp, g, d, tk, os⟩ :=
      fun q => B.iter prog w _ _ ⟨hp, g, d, tk, os⟩ _ h1 q
    wp_walk using it1
    refine wpAny_stack_any fun st => wpAny_pure ?_
    split
    · rename_i c _ _ _ _ _
      cases (c == Value.type "enumerate")
      · wp_walk using it1
        exact ⟨_, rfl, h⟩
      · wp_walk using it1
        exact ⟨_, rfl, h⟩
    · wp_walk using it1
      exact ⟨_, rfl, h⟩
section
variable {prog : Program} {w : World} {A : Around} {E : Value → Shared → Prop} {s : Shared}
/-- enumerate(v): its two new cells -/
theorem mini_enum_begins {v : Value} {o : Obj} {G : Heap → Prop} {Q : Value → Shared → Prop} (B : PySem.Begins v o G) (h1 : G s.heap)
    (h : ∀ h', IsEnum h' (s.heap.objs.size + 1) s.heap.objs.size 0 .none → h'.get? s.heap.objs.size = some o →
      (∀ b u, s.heap.get? b = some u → h'.get? b = some u) → Q (.ref (s.heap.objs.size + 1)) { s with heap := h' }) :
    wpAny (model prog w) A (call (.type "enumerate") [v]) Q E s := by
  refine callType_new F.called_enumerate (by decide) (F.typeCall_enumerate_1 _) (F.newCall_enumerate_1 _) (fun obj => F.args_object_init_2 obj _) F.entry_enumerate_new (mini_enum_new B) ⟨h1, ?_⟩
  have sz : (s.heap.push o).objs.size = s.heap.objs.size + 1 := Heap.size_push ..
  show _ ∧ _
  rw [sz]
  have he : IsEnum ((s.heap.push o).push { cls := .type "enumerate", data := .fields #[.none, .bool false, .ref s.heap.objs.size, rawInt 0, .none, .none] }) (s.heap.objs.size + 1) s.heap.objs.size 0 .none := by
    have q := Heap.get?_push_size (s.heap.push o) (o := { cls := .type "enumerate", data := .fields #[.none, .bool false, .ref s.heap.objs.size, rawInt 0, .none, .none] }) rfl
    rw [sz] at q; exact q
  exact ⟨⟨_, he, rfl⟩, h _ he (Heap.get?_push_of_some _ (Heap.get?_push_size _ B.free)) fun b u x => Heap.get?_push_of_some _ (Heap.get?_push_of_some _ x)⟩
end
end PySem
namespace Mini
open PySem PySem.Spec L2
/-- the tuple at a, each item in a new pair -/
def IteT (K : PySem.W.Frag) (a : Addr) : It :=
  ⟨fun i H => ∃ (xs : List V) (x : V), SqT K H a xs ∧ xs[i]? = some x, fun i H v H' => ∃ T x, v = .ref T ∧ H T = none ∧ H' = upd H T (.tup [.int (i : Nat), x]) ∧ ∀ xs, SqT K H a xs → xs[i]? = some x, fun i H => ∃ xs : List V, SqT K H a xs ∧ xs.length ≤ i⟩
theorem turn_enumT {P : Program} {w : World} {K : PySem.W.Frag} {elts : List Expr} {kk : Nat} {tpos : Pos} (a e it : Addr) :
    Turn P w K (.Tuple elts kk tpos) (IteT K a) [e, it] e (fun i h => (∃ old, IsEnum h e it ((i : Nat) : Int) old) ∧ h.IsTupleIter it a i ∧ e ≠ it) where
  mem := by simp
  obj := fun i h st b hb => by
    obtain ⟨⟨old, he⟩, ⟨o, ho, hc, hd⟩, _⟩ := st
    rcases (show b = e ∨ b = it by simpa using hb) with z | z
    · rw [z]; exact ⟨_, he, fun v q => nomatch q⟩
    · rw [z]; exact ⟨o, ho, fun v q => by rw [hd] at q; cases q⟩
  keep := fun i h h' st k => let ⟨⟨old, he⟩, hi, hne⟩ := st; ⟨⟨old, k e (by simp) _ he⟩, hi.at fun o q => k it (by simp) o q, hne⟩
  item := by
    intro X hP hw hK hc i pins s σ H E I hf st hg
    subst hP hw hK
    obtain ⟨⟨old, he⟩, hit, hne⟩ := st
    obtain ⟨xs, x, hq, hx⟩ := hg
    obtain ⟨its, rv, p, hz⟩ := I.tuple hq
    obtain ⟨u, hu, ru⟩ := rv.get hx
    have hel : e < s.heap.objs.size := Heap.lt_size he
    have hil : it < s.heap.objs.size := by obtain ⟨_, q, _⟩ := hit; exact Heap.lt_size q
    obtain ⟨oi, hoi, hci, hdi⟩ := id hit
    obtain ⟨oa, hoa, hca, na, hda⟩ := id p
    have hai : a ≠ it := fun z => by
      rw [z, hoi] at hoa
      cases hoa
      rw [hda] at hdi; cases hdi
    have hea : e ≠ a := fun z => by
      have he2 := he
      unfold IsEnum at he2
      rw [z, hoa] at he2
      cases he2
      cases hda
    have hh : X.A.in1.handled = none := I.ok.hd hc
    refine wpAny_pyNext_enum_itemC (PySem.Draws.tuple hh it a hai its.toArray) he ⟨hit, p⟩ (show i < its.toArray.size by simpa using (List.getElem?_eq_some_iff.mp hu).1) hne (by simp [hne, hea]) fun y h' tk hP ho hs' hT hsz hk => ?_
    have hy : y = u := by
      have : its[i]? = some y := by simpa using hP
      rw [hu] at this; cases this; rfl
    subst hy
    refine ⟨_, rfl, wpAny_letOwnedTupleGo_enum (s := { s with heap := h', toks := tk + 1 }) ho fun h'' he' sb => ?_⟩
    have hT2 : h''.get? s.heap.objs.size = some { cls := .type "tuple", data := .seq #[.int i tk, y] } := (sb.2 _ (Nat.ne_of_gt hel)).trans hT
    have new : ObjOk X.prog X.w (upd H s.heap.objs.size (.tup [.int (i : Nat), x])) h'' s.heap.objs.size (.tup [.int (i : Nat), x]) :=
      ⟨by show 2 ≤ sizeLine; decide, [.int i tk, y], .cons ⟨_, rfl⟩ (.cons ru .nil), ⟨_, hT2, rfl, _, rfl⟩⟩
    have I1 : L2.Inv X pins σ (upd H s.heap.objs.size (.tup [.int (i : Nat), x])) { s with heap := h'', toks := tk + 1 } :=
      I.turnedNew (ch := [e, it]) (fun b ob hb q => (sb.2 b (fun z => hb (by simp [z]))).trans (hk b ob (fun z => hb (by simp [z])) (fun z => hb (by simp [z])) q)) hf (Nat.le_refl _) new
    refine ⟨.ref s.heap.objs.size, _, I1, rfl, ⟨_, x, rfl, I.hok.fresh (Nat.le_refl _), rfl, fun ys hy => ?_⟩, ⟨⟨y, ?_⟩, hs'.1.at fun o q => (sb.2 it (Ne.symm hne)).trans q, hne⟩, fun b hb => ?_⟩
    · rw [I.tuple_inj hy hq]; exact hx
    · have e1 : ((i + 1 : Nat) : Int) = (i : Int) + 1 := by omega
      rw [e1]; exact he'
    · have hb' : b < s.heap.objs.size := by
        rcases (show b = e ∨ b = it by simpa using hb) with z | z
        · rw [z]; exact hel
        · rw [z]; exact hil
      rw [upd_ne (Nat.ne_of_lt hb')]
      exact (hf b hb).1
  done := by
    intro X hP hw hK hc i pins s σ H E I hf st hg
    subst hP hw hK
    obtain ⟨⟨old, he⟩, hit, hne⟩ := st
    obtain ⟨xs, hq, hx⟩ := hg
    obtain ⟨its, rv, p, hz⟩ := I.tuple hq
    obtain ⟨f0, f1, f2, f3, f4, f5⟩ := hf it (by simp)
    have hl := rv.length
    have hh : X.A.in1.handled = none := I.ok.hd hc
    have hT : s.TypeIs (.ref e) "enumerate" := ⟨_, he, rfl⟩
    unfold pyNext
    refine wpAny_bind (wpAny_attempt (wpAny_callSpecial?_slot (name := Str.ofString "__next__") hT F.slot_enumerate_next
      (wpAny_call_entry F.slot_enumerate_next hT F.entry_enumerate_next ?_ (F.args_enumerate_next_1 _))))
    show wpAny _ _ (field (.ref e) 2 >>= _) _ _ _
    refine wpAny_bind (wpAny_field he rfl (x := .ref it) rfl ?_)
    refine wpAny_bind (wpAny_nextOf_tuple_end hh hit p (Array.getElem?_eq_none (by rw [List.size_toArray]; omega)) fun h' x he' hx' => ?_)
    obtain ⟨o, ho, hcl⟩ := hx'
    refine wpAny_bind (wpAny_isInstance (T := "StopIteration") (b := true) ⟨o, ho, hcl⟩ isSubtype_stop ?_)
    exact wpAny_pure ⟨rfl, I.turned (t' := s.toks) (fun b o hb q => he' b o hb q) f0 f1 f3 f4 f5⟩
  self := fun A i s Q E st h => let ⟨⟨_, he⟩, _⟩ := st; wpAny_pyIter_enum he h
def iEnumT (K : PySem.W.Frag) (ta : TA) : TI := fun σ H R => ta σ H fun vs H1 => ∃ a xs, vs = [.ref a] ∧ SqT K H1 a xs ∧ R (IteT K a) H1
theorem pi_enumT {X : Cx} {e : Expr} {ta : TA} {p pos tpos : Pos} {elts : List Expr} {kk : Nat} (hg : Gl X "enumerate") (hm : X.mg "enumerate" = none) (ha : PA X [e] ta) (hs : starEach [e] X.env = [(false, eval e X.env)]) :
    PI X (.Tuple elts kk tpos) (.Call (.Name "enumerate" p) [e] [] pos) (iEnumT X.K ta) := by
  refine ⟨fun pins s σ H R I h => ?_⟩
  refine PyProof.Rows.Call_ (ld_blt I hg hm PyProof.Rows.boot_enumerate (PyProof.Rows.callWith_type1 (thn (ha.run pos pins s σ H _ I h) fun us s1 ⟨vs, H1, I1, r1, q1⟩ => ?_) hs rfl))
  obtain ⟨a, xs, ex, hq, q⟩ := q1
  subst ex
  obtain ⟨u, rfl, ru⟩ := vals1 r1
  cases ru
  obtain ⟨its, rv, p', hz⟩ := I1.tuple hq
  refine mini_enum_begins (PySem.begins_tuple a its.toArray) p' fun h' he ho hk => wpAny_pyIter_enum he ?_
  have I2 : L2.Inv X pins σ H1 { s1 with heap := h' } := I1.kept (t' := s1.toks) hk
  refine ⟨s1.heap.objs.size + 1, [s1.heap.objs.size + 1, s1.heap.objs.size], _, _, H1, rfl, I2, turn_enumT a (s1.heap.objs.size + 1) s1.heap.objs.size, ⟨⟨.none, he⟩, ⟨_, ho, rfl, rfl⟩, Nat.succ_ne_self _⟩, fun b hb => ?_, q⟩
  have hle : s1.heap.objs.size ≤ b := by
    rcases (show b = s1.heap.objs.size + 1 ∨ b = s1.heap.objs.size by simpa using hb) with z | z
    · rw [z]; exact Nat.le_add_right _ _
    · rw [z]; exact Nat.le_refl _
  exact I1.fpOk hle (I1.hok.fresh hle)
theorem walk_enumT {K : PySem.W.Frag} {a : Addr} {xs : List V} : Walk (IteT K a) xs.length (fun H => SqT K H a xs) (YPair (fun i => some (.int (i : Nat))) (fun i => xs[i]?)) := by
  refine ⟨fun i _ hi q => ⟨xs, xs[i], q, by simp [hi]⟩, fun _ q => ⟨xs, q, Nat.le_refl _⟩, fun i H v H' _ q y => ?_⟩
  obtain ⟨T, x, h1, h2, h3, h4⟩ := y
  exact ⟨T, .int (i : Nat), x, h1, h2, h3, rfl, h4 xs q⟩
end Mini
set_option linter.all false
set_option maxRecDepth 10000
/-! M4a: states and what an expression leaves. -/
namespace Mini
open PySem PySem.Spec L2

section
variable {K : PySem.W.Frag}
theorem Sta.perm {Hf H : Hp} {F G : List Addr} (s : Sta Hf H F) (p : F.Perm G) : Sta Hf H G := ⟨p.nodup_iff.mp s.nd, fun a ha => s.off a (p.mem_iff.mpr ha), s.sub⟩
theorem Step.left {Hf H Hf' H' : Hp} {F G F' : List Addr} (s : Step Hf H F Hf' H' F') (h : ∀ a, a ∈ F ↔ a ∈ G) : Step Hf H G Hf' H' F' :=
  ⟨s.hf, fun a o e ha => s.keep a o e fun z => ha ((h a).mp z), fun a ha => (s.own a ha).imp (h a).mp id, fun a o e => (s.new a o e).imp id fun z => z.imp (h a).mp id⟩
theorem Step.perm {Hf H Hf' H' : Hp} {F F' G : List Addr} (s : Step Hf H F Hf' H' F') (p : F'.Perm G) : Step Hf H F Hf' H' G := s.mono fun x hx => p.mem_iff.mpr hx
/-- a slot's thing taken out -/
theorem RSl.take {Hf H : Hp} {ρ : Env} {σ : L2.St} {F : List Addr} {i : Nat} {d : D} (h : RSl K Hf H ρ σ F) (e : getS ρ i = some d) :
    ∃ v g rest, σ[i]? = some (some v) ∧ F.Perm (g ++ rest) ∧ RV K Hf H d v g ∧ RSl K Hf H (ρ.set i none) σ rest := by
  obtain ⟨v, p, g, q, h1, h2, h3, h4, _⟩ := h.at_ e
  refine ⟨v, g, p ++ q, h1, ?_, h3, h4⟩
  rw [h2]
  have := (List.perm_append_comm (l₁ := p) (l₂ := g)).append_right q
  simpa [List.append_assoc] using this
/-- and put back, perhaps changed -/
theorem RSl.give {Hf H : Hp} : ∀ {ρ : Env} {σ : L2.St} {rest : List Addr} {i : Nat} {d : D} {v : V} {g : List Addr}, RSl K Hf H ρ σ rest → ρ[i]? = some none → σ[i]? = some (some v) → RV K Hf H d v g →
    ∃ F', F'.Perm (g ++ rest) ∧ RSl K Hf H (ρ.set i (some d)) σ F'
  | [], σ, rest, i, d, v, g, h, hi, hs, r => by simp at hi
  | none :: ρ, σ, rest, i, d, v, g, h, hi, hs, hr => by
    simp only [RSl] at h
    obtain ⟨s, r, rfl, h⟩ := h
    cases i with
    | zero =>
      simp at hs; subst hs
      exact ⟨_, List.Perm.refl _, by simp only [List.set_cons_zero, RSl]; exact ⟨v, r, g, rest, rfl, rfl, hr, h⟩⟩
    | succ i =>
      obtain ⟨F', hp, h⟩ := RSl.give (i := i) h (by simpa using hi) (by simpa using hs) hr
      exact ⟨F', hp, by simp only [List.set_cons_succ, RSl]; exact ⟨s, _, rfl, h⟩⟩
  | some d0 :: ρ, σ, rest, i, d, v, g, h, hi, hs, hr => by
    simp only [RSl] at h
    obtain ⟨v0, r, f1, f2, rfl, rfl, h1, h2⟩ := h
    cases i with
    | zero => simp at hi
    | succ i =>
      obtain ⟨F', hp, h⟩ := RSl.give (i := i) h2 (by simpa using hi) (by simpa using hs) hr
      refine ⟨f1 ++ F', ?_, by simp only [List.set_cons_succ, RSl]; exact ⟨v0, _, f1, F', rfl, rfl, h1, h⟩⟩
      have key : (f1 ++ (g ++ f2)).Perm (g ++ (f1 ++ f2)) := by
        rw [← List.append_assoc, ← List.append_assoc]
        exact (List.perm_append_comm (l₁ := f1) (l₂ := g)).append_right f2
      exact (hp.append_left f1).trans key
theorem getS_some {ρ : Env} {i : Nat} {d : D} (h : getS ρ i = some d) : ρ[i]? = some (some d) := by
  unfold getS at h
  cases e : ρ[i]? with
  | none => rw [e] at h; simp at h
  | some o => rw [e] at h; simp at h; rw [h]
theorem getS_lt {ρ : Env} {i : Nat} {d : D} (h : getS ρ i = some d) : i < ρ.length := (List.getElem?_eq_some_iff.mp (getS_some h)).1
theorem set_none_at {ρ : Env} {i : Nat} (h : i < ρ.length) : (ρ.set i none)[i]? = some none := by simp [h]
theorem set_set {α : Type} {ρ : List α} {i : Nat} {a b : α} : (ρ.set i a).set i b = ρ.set i b := by simp [List.set_set]

/-- how a value is held: owned (its places: f), or but looked at -/
def Own (K : PySem.W.Frag) (Hf H : Hp) (F : List Addr) (x : Vt) (v : V) (f : List Addr) : Prop :=
  (x.t = false ∧ RV K Hf H x.d v f) ∨ (x.t = true ∧ f = [] ∧ ∃ f', (∀ a ∈ f', a ∈ F) ∧ RV K Hf H x.d v f')
theorem Own.opd {Hf H : Hp} {F : List Addr} {x : Vt} {v : V} {f : List Addr} (h : Own K Hf H F x v f) : Opd K Hf H x.d v := by
  rcases h with ⟨_, h⟩ | ⟨_, _, f', _, h⟩
  · exact ⟨f, h⟩
  · exact ⟨f', h⟩
theorem Own.tracked {Hf H : Hp} {F : List Addr} {x : Vt} {v : V} {f : List Addr} (h : Own K Hf H F x v f) : ∀ a ∈ f, ∃ o, H a = some o ∧ Mut (some o) := by
  rcases h with ⟨_, h⟩ | ⟨_, rfl, _⟩
  · exact RV.tracked _ _ _ h
  · exact fun a ha => nomatch ha
/-- nothing that stood has changed -/
def Calm (ρ ρ' : Env) (F F' : List Addr) (H H' : Hp) : Prop := ρ' = ρ ∧ (∀ a ∈ F, a ∈ F') ∧ ∀ a o, H a = some o → H' a = some o
theorem Calm.refl (ρ : Env) (F : List Addr) (H : Hp) : Calm ρ ρ F F H H := ⟨rfl, fun _ h => h, fun _ _ e => e⟩
theorem Calm.trans {ρ ρ1 ρ2 : Env} {F F1 F2 : List Addr} {H H1 H2 : Hp} (a : Calm ρ ρ1 F F1 H H1) (b : Calm ρ1 ρ2 F1 F2 H1 H2) : Calm ρ ρ2 F F2 H H2 :=
  ⟨b.1.trans a.1, fun x h => b.2.1 x (a.2.1 x h), fun x o e => b.2.2 x o (a.2.2 x o e)⟩
/-- behind an expression, the witnesses told -/
structure PstW (K : PySem.W.Frag) (Hf H : Hp) (F : List Addr) (ρ : Env) (σ : L2.St) (q : Bool) (x : Vt) (ρ' : Env) (v : V) (H' : Hp) (Hf' : Hp) (F' f : List Addr) : Prop where
  sta : Sta Hf' H' (F' ++ f)
  sl : RSl K Hf' H' ρ' σ F'
  step : Step Hf H F Hf' H' (F' ++ f)
  own : Own K Hf' H' F' x v f
  calm : q = true → Calm ρ ρ' F F' H H'
def Pst (K : PySem.W.Frag) (Hf H : Hp) (F : List Addr) (ρ : Env) (σ : L2.St) (q : Bool) (x : Vt) (ρ' : Env) (v : V) (H' : Hp) : Prop := ∃ Hf' F' f, PstW K Hf H F ρ σ q x ρ' v H' Hf' F' f
theorem PstW.less {Hf H H' Hf' : Hp} {F F' f : List Addr} {ρ ρ' : Env} {σ : L2.St} {q : Bool} {x : Vt} {v : V} (h : PstW K Hf H F ρ σ q x ρ' v H' Hf' F' f) : Sta Hf' H' F' := h.sta.less (List.sublist_append_left _ _)
/-- a held value stands by while something else is reckoned -/
theorem Own.by_ {Hf H Hf' H' : Hp} {F F' f g : List Addr} {ρ ρ' : Env} {x : Vt} {v : V} {q : Bool} (h : Own K Hf H F x v f) (sl : ∃ σ, RSl K Hf H ρ σ F) (st : Step Hf H F Hf' H' g) (e : ∀ a ∈ f, H' a = H a) (c : q = true → Calm ρ ρ' F F' H H') (ht : (x.t && !q) = false) :
    Own K Hf' H' F' x v f := by
  rcases h with ⟨h1, h2⟩ | ⟨h1, rfl, f', h3, h4⟩
  · exact .inl ⟨h1, RV.keep st.ext _ _ _ h2 e⟩
  · rw [h1] at ht
    obtain ⟨_, e2, e3⟩ := c (by simpa using ht)
    refine .inr ⟨h1, rfl, f', fun a ha => e2 a (h3 a ha), RV.keep st.ext _ _ _ h4 fun a ha => ?_⟩
    obtain ⟨o, h5, _⟩ := RV.tracked _ _ _ h4 a ha
    rw [h5]; exact e3 a o h5
/-- two values, one behind the other -/
theorem PstW.two {Hf H H1 Hf1 H2 Hf2 : Hp} {F F1 f1 F2 f2 : List Addr} {ρ ρ1 ρ2 : Env} {σ : L2.St} {q1 q2 : Bool} {x y : Vt} {v u : V} (a : PstW K Hf H F ρ σ q1 x ρ1 v H1 Hf1 F1 f1) (b : PstW K Hf1 H1 F1 ρ1 σ q2 y ρ2 u H2 Hf2 F2 f2) (ht : (x.t && !q2) = false) :
    Sta Hf2 H2 ((F2 ++ f2) ++ f1) ∧ Step Hf H F Hf2 H2 ((F2 ++ f2) ++ f1) ∧ Own K Hf2 H2 F2 x v f1 ∧ Own K Hf2 H2 F2 y u f2 ∧ ((q1 && q2) = true → Calm ρ ρ2 F F2 H H2) := by
  obtain ⟨s1, s2⟩ := Step.by_ a.sta a.own.tracked b.step b.sta
  exact ⟨s1, a.step.trans b.step.wide, a.own.by_ ⟨σ, a.sl⟩ b.step s2 b.calm ht, b.own, fun h => by
    rw [Bool.and_eq_true] at h
    exact (a.calm h.1).trans (b.calm h.2)⟩
/-- an operation's result -/
theorem Res.pst {Hf H H2 Hf2 H3 : Hp} {F F2 G : List Addr} {ρ ρ2 : Env} {σ : L2.St} {q : Bool} {r : D} {v : V} (h : Res K Hf2 H2 r v H3) (s : Sta Hf2 H2 (F2 ++ G)) (tr : ∀ a ∈ F2, ∃ o, H2 a = some o) (sl : RSl K Hf2 H2 ρ2 σ F2) (st : Step Hf H F Hf2 H2 (F2 ++ G))
    (c : q = true → Calm ρ ρ2 F F2 H H2) : Pst K Hf H F ρ σ q ⟨r, false⟩ ρ2 v H3 := by
  obtain ⟨Hf', f, e1, e2, e3, e4, e5, e6, e7⟩ := h
  have keepF : ∀ a ∈ F2, H3 a = H2 a := fun a ha => by
    obtain ⟨o, e⟩ := tr a ha
    rw [e]; exact e1 a o e
  have s' := s.less (List.sublist_append_left F2 G)
  refine ⟨Hf', F2, f, ⟨List.nodup_append.mpr ⟨s'.nd, e5, fun a ha b hb e => ?_⟩, fun a ha => ?_, e3⟩, RSl.keep (.of e2) _ _ _ sl keepF, st.trans ⟨e2, fun a o e _ => e1 a o e, fun a ha => ?_, fun a o e => ?_⟩, .inl ⟨rfl, e7⟩, fun hq => ?_⟩
  · subst e
    obtain ⟨o, e⟩ := tr a ha
    rw [(e6 a hb).1] at e; cases e
  · rcases List.mem_append.mp ha with h | h
    · cases q : Hf' a with
      | none => rfl
      | some o =>
        rcases e4 a o q with z | z | ⟨vs, z⟩
        · rw [s'.off a h] at z; cases z
        · obtain ⟨o', e⟩ := tr a h
          rw [z] at e; cases e
        · obtain ⟨o', e, m⟩ := RSl.tracked sl a h
          rw [z] at e; cases e; cases m
    · exact (e6 a h).2
  · rcases List.mem_append.mp ha with h | h
    · exact .inl (List.mem_append_left _ h)
    · exact .inr (e6 a h).1
  · rcases e4 a o e with z | z | z
    · exact .inl z
    · exact .inr (.inr (.inl z))
    · exact .inr (.inr (.inr z))
  · obtain ⟨c1, c2, c3⟩ := c hq
    exact ⟨c1, c2, fun a o e => e1 a o (c3 a o e)⟩
theorem RSl.tr {Hf H : Hp} {ρ : Env} {σ : L2.St} {F : List Addr} (h : RSl K Hf H ρ σ F) : ∀ a ∈ F, ∃ o, H a = some o := fun a ha => let ⟨o, e, _⟩ := h.tracked a ha; ⟨o, e⟩
/-- a value that is neither new nor owned -/
theorem Pst.plain {Hf H H2 Hf2 : Hp} {F F2 G : List Addr} {ρ ρ2 : Env} {σ : L2.St} {q : Bool} {r : D} {v : V} (h : RF K Hf2 r v) (s : Sta Hf2 H2 (F2 ++ G)) (sl : RSl K Hf2 H2 ρ2 σ F2) (st : Step Hf H F Hf2 H2 (F2 ++ G))
    (c : q = true → Calm ρ ρ2 F F2 H H2) : Pst K Hf H F ρ σ q ⟨r, false⟩ ρ2 v H2 := Res.pst (Res.same s.sub h) s sl.tr sl st c
end

section
variable (K : PySem.W.Frag) (Φ : Phi)
/-- the reading of an expression of the small language -/
def tE (e : CE) : TE := fun σ H Q => ∃ Hf F ρ, Sta Hf H F ∧ RSl K Hf H ρ σ F ∧ match den Φ e ρ with
  | .ok x ρ' => ∀ v H', Pst K Hf H F ρ σ e.quiet x ρ' v H' → Q v H'
  | _ => False
/-- behind a test -/
def PstT (K : PySem.W.Frag) (Hf H : Hp) (F : List Addr) (ρ : Env) (σ : L2.St) (q : Bool) (ρ' : Env) (H' : Hp) : Prop := ∃ Hf' F' f, Sta Hf' H' (F' ++ f) ∧ RSl K Hf' H' ρ' σ F' ∧ Step Hf H F Hf' H' (F' ++ f) ∧ (q = true → Calm ρ ρ' F F' H H')
def tT (e : CE) : TT := fun σ H Q => ∃ Hf F ρ, Sta Hf H F ∧ RSl K Hf H ρ σ F ∧ match den Φ e ρ with
  | .ok ⟨.bl b, _⟩ ρ' => ∀ H', PstT K Hf H F ρ σ e.quiet ρ' H' → Q b H'
  | _ => False
/-- behind an argument list -/
structure PstA (K : PySem.W.Frag) (Hf H : Hp) (F : List Addr) (ρ : Env) (σ : L2.St) (q : Bool) (xs : List D) (ρ' : Env) (vs : List V) (H' : Hp) (Hf' : Hp) (F' f : List Addr) : Prop where
  sta : Sta Hf' H' (F' ++ f)
  sl : RSl K Hf' H' ρ' σ F'
  step : Step Hf H F Hf' H' (F' ++ f)
  own : RVs K Hf' H' xs vs f
  calm : q = true → Calm ρ ρ' F F' H H'
def tEs (es : CEs) : TA := fun σ H Q => ∃ Hf F ρ, Sta Hf H F ∧ RSl K Hf H ρ σ F ∧ match denEs Φ es ρ with
  | .ok xs ρ' => ∀ vs H', (∃ Hf' F' f, PstA K Hf H F ρ σ es.quiet xs ρ' vs H' Hf' F' f) → Q vs H'
  | _ => False
end

section
variable {K : PySem.W.Frag} {Φ : Phi} {σ : L2.St} {H : Hp}
theorem Pst.test {Hf H' : Hp} {F : List Addr} {ρ ρ' : Env} {q : Bool} {x : Vt} {v : V} {b : Bool} (h : Pst K Hf H F ρ σ q x ρ' v H') (e : x.d = .bl b) : v = .bl b ∧ PstT K Hf H F ρ σ q ρ' H' := by
  obtain ⟨Hf', F', f, w⟩ := h
  refine ⟨?_, Hf', F', f, w.sta, w.sl, w.step, w.calm⟩
  have := w.own.opd
  rw [e] at this
  exact this.bl
/-- a test by its value -/
theorem tT_tB {e : CE} {Q : Bool → Hp → Prop} (h : tT K Φ e σ H Q) : tB (tE K Φ e) σ H Q := by
  obtain ⟨Hf, F, ρ, s, sl, h⟩ := h
  refine ⟨Hf, F, ρ, s, sl, ?_⟩
  cases q : den Φ e ρ with
  | ok x ρ' =>
    rw [q] at h
    obtain ⟨d, t⟩ := x
    cases d <;> try exact False.elim h
    rename_i b
    intro v H' p
    obtain ⟨e1, p'⟩ := p.test rfl
    exact ⟨b, e1, h H' p'⟩
  | exc x ρ' => rw [q] at h; exact h
  | stuck => rw [q] at h; exact h
end
end Mini
set_option linter.all false
set_option maxRecDepth 10000
/-! M4b: what is asked of a construct, from what is asked of its parts. -/
namespace Mini
open PySem PySem.Spec L2
section
variable {K : PySem.W.Frag} {Φ : Phi} {σ : L2.St} {H : Hp} {Q : VK}
/-- open a bind that ends well -/
theorem Rx.bind_ok {α β : Type} {r : Rx α} {k : α → Env → Rx β} {P : Rx β → Prop} (hx : ∀ x e, ¬ P (.exc x e)) (hs : ¬ P .stuck) (h : P (r.bind k)) : ∃ a e, r = .ok a e ∧ P (k a e) := by
  cases r with
  | ok a e => exact ⟨a, e, rfl, h⟩
  | exc x e => exact absurd h (hx x e)
  | stuck => exact absurd h hs
/-- the wish behind an expression -/
def Wish (K : PySem.W.Frag) (Hf H : Hp) (F : List Addr) (ρ : Env) (σ : L2.St) (q : Bool) (Q : VK) : Rx Vt → Prop
  | .ok x ρ' => ∀ v H', Pst K Hf H F ρ σ q x ρ' v H' → Q v H'
  | _ => False
theorem tE_iff {e : CE} : tE K Φ e σ H Q ↔ ∃ Hf F ρ, Sta Hf H F ∧ RSl K Hf H ρ σ F ∧ Wish K Hf H F ρ σ e.quiet Q (den Φ e ρ) := by
  unfold tE Wish
  constructor
  · rintro ⟨Hf, F, ρ, s, sl, h⟩
    exact ⟨Hf, F, ρ, s, sl, by cases q : den Φ e ρ <;> rw [q] at h <;> exact h⟩
  · rintro ⟨Hf, F, ρ, s, sl, h⟩
    exact ⟨Hf, F, ρ, s, sl, by cases q : den Φ e ρ <;> rw [q] at h <;> exact h⟩
theorem tE_run {e : CE} {Hf : Hp} {F : List Addr} {ρ ρ' : Env} {x : Vt} (s : Sta Hf H F) (sl : RSl K Hf H ρ σ F) (hd : den Φ e ρ = .ok x ρ') (h : ∀ v H' Hf' F' f, PstW K Hf H F ρ σ e.quiet x ρ' v H' Hf' F' f → Q v H') : tE K Φ e σ H Q :=
  tE_iff.mpr ⟨Hf, F, ρ, s, sl, by rw [hd]; exact fun v H' ⟨Hf', F', f, w⟩ => h v H' Hf' F' f w⟩
theorem wish_bind {α : Type} {Hf : Hp} {F : List Addr} {ρ : Env} {q : Bool} {r : Rx α} {k : α → Env → Rx Vt} (h : Wish K Hf H F ρ σ q Q (r.bind k)) : ∃ a e, r = .ok a e ∧ Wish K Hf H F ρ σ q Q (k a e) :=
  Rx.bind_ok (P := Wish K Hf H F ρ σ q Q) (fun _ _ h => h) (fun h => h) h
theorem wish_vOf {Hf : Hp} {F : List Addr} {ρ ρ' : Env} {q : Bool} {o : Option D} (h : Wish K Hf H F ρ σ q Q (vOf o ρ')) : ∃ r, o = some r ∧ ∀ v H', Pst K Hf H F ρ σ q ⟨r, false⟩ ρ' v H' → Q v H' := by
  cases o with
  | none => exact False.elim h
  | some r => exact ⟨r, rfl, h⟩
theorem wish_if {Hf : Hp} {F : List Addr} {ρ : Env} {q b : Bool} {r : Rx Vt} (h : Wish K Hf H F ρ σ q Q (if b then .stuck else r)) : b = false ∧ Wish K Hf H F ρ σ q Q r := by
  cases b with
  | true => exact False.elim h
  | false => exact ⟨rfl, h⟩
theorem wish_ite {Hf : Hp} {F : List Addr} {ρ : Env} {q : Bool} {p : Prop} [Decidable p] {r : Rx Vt} (h : Wish K Hf H F ρ σ q Q (if p then r else .stuck)) : p ∧ Wish K Hf H F ρ σ q Q r := by
  by_cases hp : p
  · rw [if_pos hp] at h; exact ⟨hp, h⟩
  · rw [if_neg hp] at h; exact False.elim h
/-! ### names, constants -/
theorem im_var {i : Nat} (h : tE K Φ (.var i) σ H Q) : tVar i σ H Q := by
  obtain ⟨Hf, F, ρ, s, sl, h⟩ := tE_iff.mp h
  simp only [den] at h
  cases e : getS ρ i with
  | none => rw [e] at h; exact False.elim h
  | some d =>
    rw [e] at h
    obtain ⟨v, g, rest, h1, h2, h3, h4⟩ := sl.take e
    refine ⟨v, h1, h v H ⟨Hf, F, [], by simpa using s, sl, by simpa using Step.refl Hf H F, ?_, fun _ => Calm.refl _ _ _⟩⟩
    cases hp : d.pure with
    | true =>
      obtain ⟨_, h5⟩ := (RV.of_pure hp).mp h3
      exact .inl ⟨by simp [hp], RV.of_RF h5⟩
    | false => exact .inr ⟨by simp [hp], rfl, g, fun a ha => h2.mem_iff.mpr (List.mem_append_left _ ha), h3⟩
theorem im_cst {d : D} {v : V} (hr : ∀ Hf, RF K Hf d v) (h : tE K Φ (.cst d) σ H Q) : tC v σ H Q := by
  obtain ⟨Hf, F, ρ, s, sl, h⟩ := tE_iff.mp h
  simp only [den] at h
  exact h v H (Pst.plain (G := []) (hr Hf) (by simpa using s) sl (by simpa using Step.refl Hf H F) fun _ => Calm.refl _ _ _)
theorem im_glb {x : Str} {d : D} {v : V} (hr : ∀ Hf, RF K Hf d v) (h : tE K Φ (.glb x d) σ H Q) : tC v σ H Q := by
  obtain ⟨Hf, F, ρ, s, sl, h⟩ := tE_iff.mp h
  simp only [den] at h
  exact h v H (Pst.plain (G := []) (hr Hf) (by simpa using s) sl (by simpa using Step.refl Hf H F) fun _ => Calm.refl _ _ _)
theorem im_mv {i : Nat} (h : tE K Φ (.mv i) σ H Q) : tVar i σ H Q := by
  obtain ⟨Hf, F, ρ, s, sl, h⟩ := tE_iff.mp h
  simp only [den] at h
  cases e : getS ρ i with
  | none => rw [e] at h; exact False.elim h
  | some d =>
    rw [e] at h
    obtain ⟨v, g, rest, h1, h2, h3, h4⟩ := sl.take e
    have p : F.Perm (rest ++ g) := h2.trans List.perm_append_comm
    exact ⟨v, h1, h v H ⟨Hf, rest, g, s.perm p, h4, (Step.refl Hf H F).perm p, .inl ⟨rfl, h3⟩, fun hq => nomatch (show false = true from hq)⟩⟩
/-- an owned thing becomes frozen: what is known of its places -/
def withF (Hf H : Hp) (g : List Addr) : Hp := withT Hf H g
theorem withF_at {Hf H : Hp} {g : List Addr} (off : ∀ a ∈ g, Hf a = none) {a : Addr} (ha : a ∈ g) : withF Hf H g a = H a := by
  unfold withF withT
  rw [off a ha]; simp [ha]
theorem freeze_sta {Hf H : Hp} {rest g : List Addr} (s : Sta Hf H (rest ++ g)) : Sta (withF Hf H g) H rest := by
  refine ⟨(List.nodup_append.mp s.nd).1, fun a ha => ?_, withT_sub s.sub⟩
  unfold withF withT
  rw [s.off a (List.mem_append_left _ ha)]
  have : a ∉ g := fun hg => (List.nodup_append.mp s.nd).2.2 a ha a hg rfl
  simp [this]
theorem freeze_step {Hf H : Hp} {rest g : List Addr} : Step Hf H (rest ++ g) (withF Hf H g) H rest := by
  refine ⟨withT_old, fun a o e _ => e, fun a ha => .inl (List.mem_append_left _ ha), fun a o e => ?_⟩
  unfold withF withT at e
  cases q : Hf a with
  | some o' => rw [q] at e; exact .inl e
  | none =>
    rw [q] at e
    simp only at e
    split at e
    · rename_i hg; exact .inr (.inl (List.mem_append_right _ hg))
    · cases e
theorem im_frz {i : Nat} (h : tE K Φ (.frz i) σ H Q) : tVar i σ H Q := by
  obtain ⟨Hf, F, ρ, s, sl, h⟩ := tE_iff.mp h
  simp only [den] at h
  cases e : getS ρ i with
  | none => rw [e] at h; exact False.elim h
  | some d =>
    rw [e] at h
    obtain ⟨v, g, rest, h1, h2, h3, h4⟩ := sl.take e
    have p : F.Perm (rest ++ g) := h2.trans List.perm_append_comm
    have s' := s.perm p
    have rf : RF K (withF Hf H g) d.frz v := RV.freeze (.of withT_old) _ _ _ h3 fun a ha => withF_at (fun b hb => s'.off b (List.mem_append_right _ hb)) ha
    have sl2 : RSl K (withF Hf H g) H (ρ.set i none) σ rest := RSl.keep (.of withT_old) _ _ _ h4 fun _ _ => rfl
    obtain ⟨F', q1, q2⟩ := sl2.give (set_none_at (getS_lt e)) h1 (RV.of_RF rf)
    rw [set_set] at q2
    have st : Step Hf H F (withF Hf H g) H rest := (freeze_step).left fun a => (p.mem_iff).symm
    have q1 : F'.Perm rest := by simpa using q1
    exact ⟨v, h1, h v H (Pst.plain (G := []) rf (by simpa using (freeze_sta s').perm q1.symm) q2 (by simpa using st.perm q1.symm) fun hq => nomatch (show false = true from hq))⟩
/-! ### two operands -/
theorem im_op2 {e a b : CE} {k : D → D → Option D} (he : ∀ ρ, den Φ e ρ = (den Φ a ρ).bind fun x ρ => (den Φ b ρ).bind fun y ρ => if x.t && !b.quiet then .stuck else vOf (k x.d y.d) ρ) (hq : e.quiet = (a.quiet && b.quiet))
    (h : tE K Φ e σ H Q) : tOp (rOp K k) (tE K Φ a) (tE K Φ b) σ H Q := by
  obtain ⟨Hf, F, ρ, s, sl, h⟩ := tE_iff.mp h
  rw [he] at h
  obtain ⟨x, ρ1, e1, h⟩ := wish_bind h
  obtain ⟨y, ρ2, e2, h⟩ := wish_bind h
  obtain ⟨ht, h⟩ := wish_if h
  obtain ⟨r, e3, h⟩ := wish_vOf h
  refine tE_run s sl e1 fun v H1 Hf1 F1 f1 w1 => tE_run w1.less w1.sl e2 fun u H2 Hf2 F2 f2 w2 => ?_
  obtain ⟨p1, p2, p3, p4, p5⟩ := w1.two w2 ht
  rw [List.append_assoc] at p1 p2
  exact ⟨Hf2, x.d, y.d, r, p1.sub, p3.opd, p4.opd, e3, fun v H3 hr => h v H3 (hr.pst p1 w2.sl.tr w2.sl p2 fun z => p5 (by rw [← hq]; exact z))⟩
theorem im_bin {op : Operator} {a b : CE} (h : tE K Φ (.bin op a b) σ H Q) : tOp (rOp K (binD op)) (tE K Φ a) (tE K Φ b) σ H Q := im_op2 (fun ρ => by simp only [den]) (by simp only [CE.quiet]) h
theorem im_cmp {op : CmpOp} {a b : CE} (h : tE K Φ (.cmp op a b) σ H Q) : tOp (rOp K fun d e => (cmpD op d e).map D.bl) (tE K Φ a) (tE K Φ b) σ H Q := im_op2 (fun ρ => by simp only [den]) (by simp only [CE.quiet]) h
/-! ### one operand -/
theorem im_op1 {e a : CE} {k : D → Option D} (he : ∀ ρ, den Φ e ρ = (den Φ a ρ).bind fun x ρ => vOf (k x.d) ρ) (hq : e.quiet = a.quiet) (h : tE K Φ e σ H Q) :
    tE K Φ a σ H fun x H1 => ∃ Hf d r, Sub Hf H1 ∧ Opd K Hf H1 d x ∧ k d = some r ∧ ∀ v H', Res K Hf H1 r v H' → Q v H' := by
  obtain ⟨Hf, F, ρ, s, sl, h⟩ := tE_iff.mp h
  rw [he] at h
  obtain ⟨x, ρ1, e1, h⟩ := wish_bind h
  obtain ⟨r, e3, h⟩ := wish_vOf h
  refine tE_run s sl e1 fun v H1 Hf1 F1 f1 w1 => ⟨Hf1, x.d, r, w1.sta.sub, w1.own.opd, e3, fun v H3 hr => h v H3 (hr.pst w1.sta w1.sl.tr w1.sl w1.step fun z => w1.calm (by rw [← hq]; exact z))⟩
theorem im_neg {a : CE} (h : tE K Φ (.neg a) σ H Q) : tUn (rU fun i => .int (-i)) (tE K Φ a) σ H Q := by
  have h' := im_op1 (a := a) (k := fun d => match d with | .int i => some (.int (-i)) | _ => none) (fun ρ => by
    simp only [den]
    congr 1; funext x ρ1
    cases x.d <;> rfl) (by simp only [CE.quiet]) h
  obtain ⟨Hf, F, ρ, s, sl, h'⟩ := h'
  refine ⟨Hf, F, ρ, s, sl, ?_⟩
  cases q : den Φ a ρ with
  | ok x ρ' =>
    rw [q] at h'
    intro v H' p
    obtain ⟨Hf2, d, r, sb, ho, hk, hq⟩ := h' v H' p
    split at hk
    · cases hk; exact ⟨_, ho.int, hq _ _ (.int sb)⟩
    · cases hk
  | exc x e => rw [q] at h'; exact h'
  | stuck => rw [q] at h'; exact h'
theorem tE_mono {e : CE} {Q' : VK} (h : tE K Φ e σ H Q) (hq : ∀ v H', Q v H' → Q' v H') : tE K Φ e σ H Q' := by
  obtain ⟨Hf, F, ρ, s, sl, h⟩ := h
  refine ⟨Hf, F, ρ, s, sl, ?_⟩
  cases q : den Φ e ρ with
  | ok x ρ' => rw [q] at h; exact fun v H' p => hq v H' (h v H' p)
  | exc x e => rw [q] at h; exact h
  | stuck => rw [q] at h; exact h
theorem im_not {a : CE} (h : tE K Φ (.not a) σ H Q) : tNotV (tE K Φ a) σ H Q := by
  have h' := im_op1 (a := a) (k := fun d => match d with | .bl b => some (.bl (!b)) | _ => none) (fun ρ => by
    simp only [den]
    congr 1; funext x ρ1
    cases x.d <;> rfl) (by simp only [CE.quiet]) h
  refine tE_mono h' fun v H' ⟨Hf2, d, r, sb, ho, hk, hq⟩ => ?_
  split at hk
  · cases hk; exact ⟨_, ho.bl, hq _ _ (.bl sb)⟩
  · cases hk
theorem im_b1 {b : B1} {a : CE} (h : tE K Φ (.b1 b a) σ H Q) : tCB (rB1 K b) (tCons (tE K Φ a) tNil) σ H Q :=
  tE_mono (im_op1 (a := a) (k := b1D b) (fun ρ => by simp only [den]) (by simp only [CE.quiet]) h) fun v H' ⟨Hf, d, r, sb, ho, hk, hq⟩ => ⟨Hf, d, v, r, rfl, sb, ho, hk, hq⟩
theorem im_isi {t : Ty} {a : CE} (h : tE K Φ (.isi a t) σ H Q) : tCB (rIsiD K t) (tCons (tE K Φ a) (tCons (tC (.ty t.nm)) tNil)) σ H Q :=
  tE_mono (im_op1 (a := a) (k := fun d => some (.bl (isiD t d))) (fun ρ => by simp only [den, vOf]) (by simp only [CE.quiet]) h) fun v H' ⟨Hf, d, r, sb, ho, hk, hq⟩ => by
    cases hk
    exact ⟨Hf, d, v, rfl, sb, ho, hq _ _ (.bl sb)⟩
theorem im_rng {tp : Bool} {a : CE} (h : tE K Φ (.rng tp a) σ H Q) : tE K Φ a σ H fun x H1 => ∃ n, x = .int n ∧ RgOk 0 n ∧ (tp = true → NewT (rgV 0 n) H1 Q) ∧ (tp = false → ∀ q, H1 q = none → Q (.ref q) (upd H1 q (.lst (rgV 0 n)))) := by
  have h' := im_op1 (a := a) (k := fun d => match d with | .int n => (if -1000000 ≤ n ∧ n ≤ 1000000 then some (if tp then .tup (rangeD 0 n.toNat) else .lst true (rangeD 0 n.toNat)) else none) | _ => none) (fun ρ => by
    simp only [den]
    congr 1; funext x ρ1
    cases x.d <;> try rfl
    rename_i n
    by_cases hn : -1000000 ≤ n ∧ n ≤ 1000000
    · simp only [hn, and_self, if_true, vOf]
    · simp only [hn, if_false, vOf]) (by simp only [CE.quiet]) h
  refine tE_mono h' fun v H' ⟨Hf2, d, r, sb, ho, hk, hq⟩ => ?_
  split at hk
  · rename_i n
    split at hk
    · rename_i hn
      cases hk
      have er : rgV 0 n = (List.range n.toNat).map fun (i : Nat) => V.int (0 + (i : Int)) := by unfold rgV; simp
      have ed : RFs K Hf2 (rangeD 0 n.toNat) (rgV 0 n) := by
        have := RFs.of_ints (K := K) Hf2 ((List.range n.toNat).map fun (i : Nat) => (0 : Int) + i)
        rw [er]
        simpa [rangeD, List.map_map, Function.comp_def] using this
      refine ⟨n, ho.int, ⟨by omega, by omega, by omega, by omega, by omega⟩, fun e q o hn ho => ?_, fun e q hn => ?_⟩
      · subst e; exact hq _ _ (.tup sb hn ho ed)
      · subst e; exact hq _ _ (.lst sb hn ed)
    · cases hk
  · cases hk
end
end Mini
set_option linter.all false
set_option maxRecDepth 10000
/-! M4c: further constructs. -/
namespace Mini
open PySem PySem.Spec L2
section
variable {K : PySem.W.Frag} {Φ : Phi} {σ : L2.St} {H : Hp} {Q : VK}
/-- what follows a part whose value is let go -/
theorem PstW.after {Hf H Hf1 H1 Hf2 H2 : Hp} {F F1 F2 f2 : List Addr} {ρ ρ1 ρ2 : Env} {q q1 q2 : Bool} {x : Vt} {v : V} (st : Step Hf H F Hf1 H1 F1) (c : q1 = true → Calm ρ ρ1 F F1 H H1) (w : PstW K Hf1 H1 F1 ρ1 σ q2 x ρ2 v H2 Hf2 F2 f2)
    (hq : q = true → q1 = true ∧ q2 = true) : PstW K Hf H F ρ σ q x ρ2 v H2 Hf2 F2 f2 :=
  ⟨w.sta, w.sl, st.trans w.step, w.own, fun z => (c (hq z).1).trans (w.calm (hq z).2)⟩
theorem PstW.st1 {Hf H H' Hf' : Hp} {F F' f : List Addr} {ρ ρ' : Env} {q : Bool} {x : Vt} {v : V} (h : PstW K Hf H F ρ σ q x ρ' v H' Hf' F' f) : Step Hf H F Hf' H' F' := h.step.mono fun _ ha => List.mem_append_left _ ha
theorem RV.int_nil {Hf H : Hp} {i : Int} {v : V} {f : List Addr} (h : RV K Hf H (.int i) v f) : v = .int i ∧ f = [] := by simp only [RV, RF] at h; exact ⟨h.2, h.1⟩
theorem PstW.intv {Hf H H' Hf' : Hp} {F F' f : List Addr} {ρ ρ' : Env} {q : Bool} {x : Vt} {v : V} {i : Int} (h : PstW K Hf H F ρ σ q x ρ' v H' Hf' F' f) (e : x.d = .int i) : v = .int i := by
  have := h.own.opd; rw [e] at this; exact this.int
/-! ### chains -/
theorem im_chn {op op2 : CmpOp} {a b c : CE} (h : tE K Φ (.chn op op2 a b c) σ H Q) :
    tChain (rOp K fun d e => (cmpD op d e).map D.bl) (rOp K fun d e => (cmpD op2 d e).map D.bl) (tE K Φ a) (tE K Φ b) (tE K Φ c) σ H Q := by
  obtain ⟨Hf, F, ρ, s, sl, h⟩ := tE_iff.mp h
  simp only [den] at h
  obtain ⟨x, ρ1, e1, h⟩ := wish_bind h
  obtain ⟨y, ρ2, e2, h⟩ := wish_bind h
  refine tE_run s sl e1 fun v H1 Hf1 F1 f1 w1 => tE_run w1.less w1.sl e2 fun u H2 Hf2 F2 f2 w2 => ?_
  split at h
  · rename_i i j ex ey
    have ev := w1.intv ex
    have eu := w2.intv ey
    subst ev eu
    have oi : ∀ {Hf H : Hp} {n : Int}, Opd K Hf H (.int n) (.int n) := ⟨[], by simp only [RV, RF]; exact ⟨trivial, trivial⟩⟩
    split at h
    · rename_i e3
      obtain ⟨z, ρ3, e4, h⟩ := wish_bind h
      refine ⟨Hf2, .int i, .int j, .bl true, w2.sta.sub, oi, oi, by simp only [e3, Option.map_some], fun w H3 hr => ?_⟩
      obtain ⟨Hf3, F3, f3, w3⟩ := hr.pst w2.sta w2.sl.tr w2.sl (w1.st1.trans w2.step) (q := a.quiet && b.quiet) fun z => by
        rw [Bool.and_eq_true] at z
        exact (w1.calm z.1).trans (w2.calm z.2)
      have ew : w = .bl true := (show Opd K Hf3 H3 (.bl true) w from w3.own.opd).bl
      subst ew
      refine ⟨true, rfl, ?_⟩
      rw [if_pos rfl]
      refine tE_run w3.less w3.sl e4 fun w' H4 Hf4 F4 f4 w4 => ?_
      split at h
      · rename_i k ez
        obtain ⟨r, e5, h⟩ := wish_vOf h
        have ew := w4.intv ez
        subst ew
        refine ⟨Hf4, .int j, .int k, r, w4.sta.sub, oi, oi, e5, fun v5 H5 hr5 => h v5 H5 (hr5.pst w4.sta w4.sl.tr w4.sl (w3.st1.trans w4.step) fun z => ?_)⟩
        have z : (a.quiet && b.quiet && c.quiet) = true := z
        rw [Bool.and_eq_true] at z
        exact (w3.calm z.1).trans (w4.calm z.2)
      · exact False.elim h
    · rename_i e3
      refine ⟨Hf2, .int i, .int j, .bl false, w2.sta.sub, oi, oi, by simp only [e3, Option.map_some], fun w H3 hr => ?_⟩
      have hp : Pst K Hf H F ρ σ (CE.chn op op2 a b c).quiet ⟨.bl false, false⟩ ρ2 w H3 := hr.pst w2.sta w2.sl.tr w2.sl (w1.st1.trans w2.step) fun z => by
        have z : (a.quiet && b.quiet && c.quiet) = true := z
        rw [Bool.and_eq_true, Bool.and_eq_true] at z
        exact (w1.calm z.1.1).trans (w2.calm z.1.2)
      obtain ⟨Hf3, F3, f3, w3⟩ := id hp
      have ew : w = .bl false := (show Opd K Hf3 H3 (.bl false) w from w3.own.opd).bl
      subst ew
      exact ⟨false, rfl, by rw [if_neg (by decide)]; exact h _ _ hp⟩
    · exact False.elim h
  · exact False.elim h
/-! ### tests -/
def WishT (K : PySem.W.Frag) (Hf H : Hp) (F : List Addr) (ρ : Env) (σ : L2.St) (q : Bool) (Q : Bool → Hp → Prop) : Rx Vt → Prop
  | .ok ⟨.bl b, _⟩ ρ' => ∀ H', PstT K Hf H F ρ σ q ρ' H' → Q b H'
  | _ => False
theorem tT_iff {e : CE} {Q : Bool → Hp → Prop} : tT K Φ e σ H Q ↔ ∃ Hf F ρ, Sta Hf H F ∧ RSl K Hf H ρ σ F ∧ WishT K Hf H F ρ σ e.quiet Q (den Φ e ρ) := by
  unfold tT WishT
  constructor
  · rintro ⟨Hf, F, ρ, s, sl, h⟩
    exact ⟨Hf, F, ρ, s, sl, by
      cases q : den Φ e ρ with
      | ok x ρ' => obtain ⟨d, t⟩ := x; cases d <;> rw [q] at h <;> exact h
      | _ => rw [q] at h; exact h⟩
  · rintro ⟨Hf, F, ρ, s, sl, h⟩
    exact ⟨Hf, F, ρ, s, sl, by
      cases q : den Φ e ρ with
      | ok x ρ' => obtain ⟨d, t⟩ := x; cases d <;> rw [q] at h <;> exact h
      | _ => rw [q] at h; exact h⟩
theorem wishT_bind {α : Type} {Hf : Hp} {F : List Addr} {ρ : Env} {q : Bool} {Q : Bool → Hp → Prop} {r : Rx α} {k : α → Env → Rx Vt} (h : WishT K Hf H F ρ σ q Q (r.bind k)) : ∃ a e, r = .ok a e ∧ WishT K Hf H F ρ σ q Q (k a e) :=
  Rx.bind_ok (P := WishT K Hf H F ρ σ q Q) (fun _ _ h => h) (fun h => h) h
theorem wishT_bl {Hf : Hp} {F : List Addr} {ρ ρ' : Env} {q : Bool} {Q : Bool → Hp → Prop} {x : Vt} (h : WishT K Hf H F ρ σ q Q (.ok x ρ')) : ∃ b, x.d = .bl b ∧ ∀ H', PstT K Hf H F ρ σ q ρ' H' → Q b H' := by
  obtain ⟨d, t⟩ := x
  cases d <;> first | exact ⟨_, rfl, h⟩ | exact False.elim h
theorem tT_run {e : CE} {Q : Bool → Hp → Prop} {Hf : Hp} {F : List Addr} {ρ ρ' : Env} {x : Vt} {b : Bool} (s : Sta Hf H F) (sl : RSl K Hf H ρ σ F) (hd : den Φ e ρ = .ok x ρ') (hb : x.d = .bl b)
    (h : ∀ H' Hf' F', Sta Hf' H' F' → RSl K Hf' H' ρ' σ F' → Step Hf H F Hf' H' F' → (e.quiet = true → Calm ρ ρ' F F' H H') → Q b H') : tT K Φ e σ H Q := by
  refine tT_iff.mpr ⟨Hf, F, ρ, s, sl, ?_⟩
  rw [hd]
  obtain ⟨d, t⟩ := x
  cases hb
  exact fun H' ⟨Hf', F', f, h1, h2, h3, h4⟩ => h H' Hf' F' (h1.less (List.sublist_append_left _ _)) h2 (h3.mono fun _ ha => List.mem_append_left _ ha) h4
theorem im_notT {a : CE} {Q : Bool → Hp → Prop} (h : tT K Φ (.not a) σ H Q) : tNot (tT K Φ a) σ H Q := by
  obtain ⟨Hf, F, ρ, s, sl, h⟩ := tT_iff.mp h
  simp only [den] at h
  obtain ⟨x, ρ1, e1, h⟩ := wishT_bind h
  split at h
  · rename_i b eb
    exact tT_run s sl e1 eb fun H' Hf' F' h1 h2 h3 h4 => h H' ⟨Hf', F', [], by simpa using h1, h2, by simpa using h3, h4⟩
  · exact False.elim h
theorem im_bop1 {and : Bool} {e : CE} (h : tE K Φ (.bop and (.cons e .nil)) σ H Q) : tE K Φ e σ H Q := by
  obtain ⟨Hf, F, ρ, s, sl, h⟩ := tE_iff.mp h
  simp only [den, denB] at h
  refine tE_iff.mpr ⟨Hf, F, ρ, s, sl, ?_⟩
  cases q : den Φ e ρ with
  | ok x ρ' =>
    rw [q] at h
    exact fun v H' ⟨Hf', F', f, w⟩ => h v H' ⟨Hf', F', f, w.sta, w.sl, w.step, w.own, fun z => w.calm (by simpa only [CE.quiet, CEs.quiet, Bool.and_true] using z)⟩
  | exc x e => rw [q] at h; exact h
  | stuck => rw [q] at h; exact h
theorem bop_core {and : Bool} {e e2 : CE} {es : CEs} (h : tE K Φ (.bop and (.cons e (.cons e2 es))) σ H Q) : tE K Φ e σ H fun x H1 => ∃ b, x = .bl b ∧ if b = and then tE K Φ (.bop and (.cons e2 es)) σ H1 Q else Q (.bl b) H1 := by
  obtain ⟨Hf, F, ρ, s, sl, h⟩ := tE_iff.mp h
  simp only [den, denB] at h
  obtain ⟨x, ρ1, e1, h⟩ := wish_bind h
  refine tE_run s sl e1 fun v H1 Hf1 F1 f1 w1 => ?_
  split at h
  · rename_i b eb
    have hv : v = .bl b := by have := w1.own.opd; rw [eb] at this; exact this.bl
    subst hv
    refine ⟨b, rfl, ?_⟩
    by_cases hb : b = and
    · rw [if_pos hb] at h ⊢
      refine tE_iff.mpr ⟨Hf1, F1, ρ1, w1.less, w1.sl, ?_⟩
      simp only [den]
      cases q : denB Φ and (.cons e2 es) ρ1 with
      | ok y ρ2 =>
        rw [q] at h
        exact fun v H' ⟨Hf', F', f, w⟩ => h v H' ⟨Hf', F', f, PstW.after w1.st1 w1.calm w fun z => by simpa only [CE.quiet, CEs.quiet, Bool.and_eq_true] using z⟩
      | exc x e => rw [q] at h; exact h
      | stuck => rw [q] at h; exact h
    · rw [if_neg hb] at h ⊢
      exact h _ _ ⟨Hf1, F1, [], by simpa using w1.less, w1.sl, by simpa using w1.st1, .inl ⟨rfl, by simp only [RV, RF]; exact ⟨trivial, trivial⟩⟩, fun z => w1.calm (by
        simp only [CE.quiet, CEs.quiet, Bool.and_eq_true] at z; exact z.1)⟩
  · exact False.elim h
theorem im_and {e e2 : CE} {es : CEs} (h : tE K Φ (.bop true (.cons e (.cons e2 es))) σ H Q) : tAndV (tE K Φ e) (tE K Φ (.bop true (.cons e2 es))) σ H Q :=
  tE_mono (bop_core h) fun x H1 ⟨b, ex, h⟩ => ⟨b, ex, by cases b <;> simpa using h⟩
theorem im_or {e e2 : CE} {es : CEs} (h : tE K Φ (.bop false (.cons e (.cons e2 es))) σ H Q) : tOrV (tE K Φ e) (tE K Φ (.bop false (.cons e2 es))) σ H Q :=
  tE_mono (bop_core h) fun x H1 ⟨b, ex, h⟩ => ⟨b, ex, by cases b <;> simpa using h⟩
theorem im_bopT1 {and : Bool} {e : CE} {Q : Bool → Hp → Prop} (h : tT K Φ (.bop and (.cons e .nil)) σ H Q) : tT K Φ e σ H Q := by
  obtain ⟨Hf, F, ρ, s, sl, h⟩ := tT_iff.mp h
  simp only [den, denB] at h
  cases q : den Φ e ρ with
  | ok x ρ' =>
    rw [q] at h
    obtain ⟨b, eb, h⟩ := wishT_bl h
    exact tT_run s sl q eb fun H' Hf' F' h1 h2 h3 h4 => h H' ⟨Hf', F', [], by simpa using h1, h2, by simpa using h3, fun z => h4 (by simpa only [CE.quiet, CEs.quiet, Bool.and_true] using z)⟩
  | exc x e => rw [q] at h; exact False.elim h
  | stuck => rw [q] at h; exact False.elim h
theorem bopT_core {and : Bool} {e e2 : CE} {es : CEs} {Q : Bool → Hp → Prop} (h : tT K Φ (.bop and (.cons e (.cons e2 es))) σ H Q) : tT K Φ e σ H fun b H1 => if b = and then tT K Φ (.bop and (.cons e2 es)) σ H1 Q else Q b H1 := by
  obtain ⟨Hf, F, ρ, s, sl, h⟩ := tT_iff.mp h
  simp only [den, denB] at h
  obtain ⟨x, ρ1, e1, h⟩ := wishT_bind h
  split at h
  · rename_i b eb
    refine tT_run s sl e1 eb fun H1 Hf1 F1 p1 p2 p3 p4 => ?_
    by_cases hb : b = and
    · rw [if_pos hb] at h ⊢
      cases q : denB Φ and (.cons e2 es) ρ1 with
      | ok y ρ2 =>
        rw [q] at h
        obtain ⟨c, ec, h⟩ := wishT_bl h
        exact tT_run p1 p2 (by simp only [den]; exact q) ec fun H' Hf' F' r1 r2 r3 r4 => h H' ⟨Hf', F', [], by simpa using r1, r2, by simpa using p3.trans r3, fun z => by
          simp only [CE.quiet, CEs.quiet, Bool.and_eq_true] at z r4
          exact (p4 z.1).trans (r4 z.2)⟩
      | exc x e => rw [q] at h; exact False.elim h
      | stuck => rw [q] at h; exact False.elim h
    · rw [if_neg hb] at h ⊢
      exact h H1 ⟨Hf1, F1, [], by simpa using p1, p2, by simpa using p3, fun z => p4 (by simp only [CE.quiet, CEs.quiet, Bool.and_eq_true] at z; exact z.1)⟩
  · exact False.elim h
theorem tT_mono {e : CE} {Q Q' : Bool → Hp → Prop} (h : tT K Φ e σ H Q) (hq : ∀ b H', Q b H' → Q' b H') : tT K Φ e σ H Q' := by
  obtain ⟨Hf, F, ρ, s, sl, h⟩ := tT_iff.mp h
  refine tT_iff.mpr ⟨Hf, F, ρ, s, sl, ?_⟩
  cases q : den Φ e ρ with
  | ok x ρ' =>
    rw [q] at h
    obtain ⟨d, t⟩ := x
    cases d <;> first | exact False.elim h | exact fun H' p => hq _ H' (h H' p)
  | exc x e => rw [q] at h; exact h
  | stuck => rw [q] at h; exact h
theorem im_andT {e e2 : CE} {es : CEs} {Q : Bool → Hp → Prop} (h : tT K Φ (.bop true (.cons e (.cons e2 es))) σ H Q) : tAnd (tT K Φ e) (tT K Φ (.bop true (.cons e2 es))) σ H Q :=
  tT_mono (bopT_core h) fun b H1 h => by cases b <;> simpa using h
theorem im_orT {e e2 : CE} {es : CEs} {Q : Bool → Hp → Prop} (h : tT K Φ (.bop false (.cons e (.cons e2 es))) σ H Q) : tOr (tT K Φ e) (tT K Φ (.bop false (.cons e2 es))) σ H Q :=
  tT_mono (bopT_core h) fun b H1 h => by cases b <;> simpa using h
theorem im_ifx {c a b : CE} (h : tE K Φ (.ifx c a b) σ H Q) : tIf (tT K Φ c) (tE K Φ a) (tE K Φ b) σ H Q := by
  obtain ⟨Hf, F, ρ, s, sl, h⟩ := tE_iff.mp h
  simp only [den] at h
  obtain ⟨x, ρ1, e1, h⟩ := wish_bind h
  have key : ∀ (k : Bool) (e : CE), x.d = .bl k → (∀ z, (CE.ifx c a b).quiet = z → z = true → c.quiet = true ∧ e.quiet = true) → Wish K Hf H F ρ σ (CE.ifx c a b).quiet Q (den Φ e ρ1) → ∀ H1 Hf1 F1, Sta Hf1 H1 F1 → RSl K Hf1 H1 ρ1 σ F1 → Step Hf H F Hf1 H1 F1 → (c.quiet = true → Calm ρ ρ1 F F1 H H1) → tE K Φ e σ H1 Q := by
    intro k e ek hz h H1 Hf1 F1 p1 p2 p3 p4
    refine tE_iff.mpr ⟨Hf1, F1, ρ1, p1, p2, ?_⟩
    cases q : den Φ e ρ1 with
    | ok y ρ2 =>
      rw [q] at h
      exact fun v H' ⟨Hf', F', f, w⟩ => h v H' ⟨Hf', F', f, PstW.after p3 p4 w fun z => hz _ rfl z⟩
    | exc x e => rw [q] at h; exact h
    | stuck => rw [q] at h; exact h
  split at h
  · rename_i eb
    exact tT_run s sl e1 eb fun H1 Hf1 F1 p1 p2 p3 p4 => by
      rw [if_pos rfl]
      exact key true a eb (fun z e1 e2 => by simp only [CE.quiet] at e1; rw [← e1, Bool.and_eq_true, Bool.and_eq_true] at e2; exact e2.1) h H1 Hf1 F1 p1 p2 p3 p4
  · rename_i eb
    exact tT_run s sl e1 eb fun H1 Hf1 F1 p1 p2 p3 p4 => by
      rw [if_neg (by decide)]
      exact key false b eb (fun z e1 e2 => by simp only [CE.quiet] at e1; rw [← e1, Bool.and_eq_true, Bool.and_eq_true] at e2; exact ⟨e2.1.1, e2.2⟩) h H1 Hf1 F1 p1 p2 p3 p4
  · exact False.elim h
/-! ### several values -/
def WishL (K : PySem.W.Frag) (Hf H : Hp) (F : List Addr) (ρ : Env) (σ : L2.St) (q : Bool) (Q : List V → Hp → Prop) : Rx (List D) → Prop
  | .ok xs ρ' => ∀ vs H', (∃ Hf' F' f, PstA K Hf H F ρ σ q xs ρ' vs H' Hf' F' f) → Q vs H'
  | _ => False
theorem tEs_iff {es : CEs} {Q : List V → Hp → Prop} : tEs K Φ es σ H Q ↔ ∃ Hf F ρ, Sta Hf H F ∧ RSl K Hf H ρ σ F ∧ WishL K Hf H F ρ σ es.quiet Q (denEs Φ es ρ) := by
  unfold tEs WishL
  constructor
  · rintro ⟨Hf, F, ρ, s, sl, h⟩
    exact ⟨Hf, F, ρ, s, sl, by cases q : denEs Φ es ρ <;> rw [q] at h <;> exact h⟩
  · rintro ⟨Hf, F, ρ, s, sl, h⟩
    exact ⟨Hf, F, ρ, s, sl, by cases q : denEs Φ es ρ <;> rw [q] at h <;> exact h⟩
theorem tEs_run {es : CEs} {Q : List V → Hp → Prop} {Hf : Hp} {F : List Addr} {ρ ρ' : Env} {xs : List D} (s : Sta Hf H F) (sl : RSl K Hf H ρ σ F) (hd : denEs Φ es ρ = .ok xs ρ')
    (h : ∀ vs H' Hf' F' f, PstA K Hf H F ρ σ es.quiet xs ρ' vs H' Hf' F' f → Q vs H') : tEs K Φ es σ H Q :=
  tEs_iff.mpr ⟨Hf, F, ρ, s, sl, by rw [hd]; exact fun vs H' ⟨Hf', F', f, w⟩ => h vs H' Hf' F' f w⟩
theorem im_nil {Q : List V → Hp → Prop} (h : tEs K Φ .nil σ H Q) : tNil σ H Q := by
  obtain ⟨Hf, F, ρ, s, sl, h⟩ := tEs_iff.mp h
  simp only [denEs] at h
  exact h [] H ⟨Hf, F, [], by simpa using s, sl, by simpa using Step.refl Hf H F, by simp only [RVs]; exact ⟨trivial, trivial⟩, fun _ => Calm.refl _ _ _⟩
theorem im_cons {e : CE} {es : CEs} {Q : List V → Hp → Prop} (h : tEs K Φ (.cons e es) σ H Q) : tCons (tE K Φ e) (tEs K Φ es) σ H Q := by
  obtain ⟨Hf, F, ρ, s, sl, h⟩ := tEs_iff.mp h
  simp only [denEs] at h
  obtain ⟨x, ρ1, e1, h⟩ := Rx.bind_ok (P := WishL K Hf H F ρ σ (CEs.cons e es).quiet Q) (fun _ _ h => h) (fun h => h) h
  cases ht : x.t with
  | true => simp only [ht, if_true] at h; exact False.elim h
  | false =>
    simp only [ht, Bool.false_eq_true, if_false] at h
    obtain ⟨xs, ρ2, e2, h⟩ := Rx.bind_ok (P := WishL K Hf H F ρ σ (CEs.cons e es).quiet Q) (fun _ _ h => h) (fun h => h) h
    refine tE_run s sl e1 fun v H1 Hf1 F1 f1 w1 => tEs_run w1.less w1.sl e2 fun vs H2 Hf2 F2 f2 w2 => ?_
    obtain ⟨s1, s2⟩ := Step.by_ w1.sta w1.own.tracked w2.step w2.sta
    have ov : RV K Hf1 H1 x.d v f1 := by
      rcases w1.own with ⟨_, h⟩ | ⟨h, _⟩
      · exact h
      · rw [ht] at h; cases h
    have p : ((F2 ++ f2) ++ f1).Perm (F2 ++ (f1 ++ f2)) := by
      rw [List.append_assoc]
      exact (List.perm_append_comm (l₁ := f2) (l₂ := f1)).append_left F2
    refine h (v :: vs) H2 ⟨Hf2, F2, f1 ++ f2, s1.perm p, w2.sl, (w1.step.trans w2.step.wide).perm p, ?_, fun z => ?_⟩
    · simp only [RVs]
      exact ⟨v, vs, f1, f2, rfl, rfl, RV.keep w2.step.ext _ _ _ ov s2, w2.own⟩
    · simp only [CEs.quiet, Bool.and_eq_true] at z
      exact (w1.calm z.1).trans (w2.calm z.2)
theorem denEs_len : ∀ (es : CEs) (ρ ρ' : Env) (xs : List D), denEs Φ es ρ = .ok xs ρ' → xs.length = es.len
  | .nil, ρ, ρ', xs, h => by simp only [denEs] at h; cases h; rfl
  | .cons e es, ρ, ρ', xs, h => by
    simp only [denEs] at h
    cases q : den Φ e ρ with
    | ok x ρ1 =>
      rw [q] at h
      simp only [Rx.bind] at h
      split at h
      · cases h
      · cases q2 : denEs Φ es ρ1 with
        | ok ys ρ2 =>
          rw [q2] at h
          cases h
          simp [CEs.len, denEs_len es ρ1 _ ys q2]
        | exc x e => rw [q2] at h; cases h
        | stuck => rw [q2] at h; cases h
    | exc x e => rw [q] at h; cases h
    | stuck => rw [q] at h; cases h
theorem im_tup {es : CEs} (hn : es.len ≤ 1000) (h : tE K Φ (.tup es) σ H Q) : tTupF (tEs K Φ es) σ H Q := by
  obtain ⟨Hf, F, ρ, s, sl, h⟩ := tE_iff.mp h
  simp only [den] at h
  obtain ⟨xs, ρ1, e1, h⟩ := wish_bind h
  refine tEs_run s sl e1 fun vs H1 Hf1 F1 f1 w1 => ?_
  have hl := denEs_len _ _ _ _ e1
  have rf : RFs K (withF Hf1 H1 f1) (D.frzs xs) vs := RVs.freeze (.of withT_old) _ _ _ w1.own fun a ha => withF_at (fun b hb => w1.sta.off b (List.mem_append_right _ hb)) ha
  have sz : (1000 : Nat) ≤ sizeLine := by decide
  refine ⟨by rw [w1.own.length, hl]; omega, fun p o hp ho => h _ _ ?_⟩
  have s2 := freeze_sta w1.sta
  have r : Res K (withF Hf1 H1 f1) H1 (.tup (D.frzs xs)) (.ref p) (upd H1 p (.frz o (.tup vs))) := .tup s2.sub hp ho rf
  refine r.pst (G := []) (by simpa using s2) w1.sl.tr (RSl.keep (.of withT_old) _ _ _ w1.sl fun _ _ => rfl) (by simpa using w1.step.trans freeze_step) fun z => ?_
  exact w1.calm (by simpa only [CE.quiet] using z)
theorem im_rtup {es : CEs} (hn : es.len ≤ 1000) (h : tE K Φ (.rtup es) σ H Q) : tTup (tEs K Φ es) σ H Q := by
  obtain ⟨Hf, F, ρ, s, sl, h⟩ := tE_iff.mp h
  simp only [den] at h
  obtain ⟨xs, ρ1, e1, h⟩ := wish_bind h
  refine tEs_run s sl e1 fun vs H1 Hf1 F1 f1 w1 => ?_
  have hl := denEs_len _ _ _ _ e1
  have rf : RFs K (withF Hf1 H1 f1) (D.frzs xs) vs := RVs.freeze (.of withT_old) _ _ _ w1.own fun a ha => withF_at (fun b hb => w1.sta.off b (List.mem_append_right _ hb)) ha
  have sz : (1000 : Nat) ≤ sizeLine := by decide
  refine ⟨by rw [w1.own.length, hl]; omega, fun p hp => h _ _ ?_⟩
  have s2 := freeze_sta w1.sta
  have r : Res K (withF Hf1 H1 f1) H1 (.raw (D.frzs xs)) (.ref p) (upd H1 p (.tup vs)) := .raw s2.sub hp rf
  refine r.pst (G := []) (by simpa using s2) w1.sl.tr (RSl.keep (.of withT_old) _ _ _ w1.sl fun _ _ => rfl) (by simpa using w1.step.trans freeze_step) fun z => ?_
  exact w1.calm (by simpa only [CE.quiet] using z)
theorem im_lst {own : Bool} {es : CEs} (hn : es.len ≤ 1000) (h : tE K Φ (.lst own es) σ H Q) : tLst (tEs K Φ es) σ H Q := by
  obtain ⟨Hf, F, ρ, s, sl, h⟩ := tE_iff.mp h
  simp only [den] at h
  obtain ⟨xs, ρ1, e1, h⟩ := wish_bind h
  refine tEs_run s sl e1 fun vs H1 Hf1 F1 f1 w1 => ?_
  have hl := denEs_len _ _ _ _ e1
  have sz : (1000 : Nat) ≤ sizeLine := by decide
  refine ⟨by rw [w1.own.length, hl]; omega, fun p hp => h _ _ ?_⟩
  cases own with
  | false =>
    have rf : RFs K (withF Hf1 H1 f1) (D.frzs xs) vs := RVs.freeze (.of withT_old) _ _ _ w1.own fun a ha => withF_at (fun b hb => w1.sta.off b (List.mem_append_right _ hb)) ha
    have s2 := freeze_sta w1.sta
    have r : Res K (withF Hf1 H1 f1) H1 (.lst true (D.frzs xs)) (.ref p) (upd H1 p (.lst vs)) := .lst s2.sub hp rf
    refine r.pst (G := []) (by simpa using s2) w1.sl.tr (RSl.keep (.of withT_old) _ _ _ w1.sl fun _ _ => rfl) (by simpa using w1.step.trans freeze_step) fun z => ?_
    exact w1.calm (by simpa only [CE.quiet] using z)
  | true =>
    have tr : ∀ a ∈ F1 ++ f1, ∃ o, H1 a = some o := fun a ha => by
      rcases List.mem_append.mp ha with ha | ha
      · exact w1.sl.tr a ha
      · obtain ⟨o, e, _⟩ := RVs.tracked _ _ _ w1.own a ha; exact ⟨o, e⟩
    have np : p ∉ F1 ++ f1 := fun z => by obtain ⟨o, e⟩ := tr p z; rw [hp] at e; cases e
    have keep : ∀ a ∈ F1 ++ f1, upd H1 p (.lst vs) a = H1 a := fun a ha => upd_ne fun e => np (e ▸ ha)
    refine ⟨Hf1, F1, p :: f1, ⟨?_, fun a ha => ?_, fun a o e => upd_sub hp a o (w1.sta.sub a o e)⟩, RSl.keep (Ext.refl _) _ _ _ w1.sl fun a ha => keep a (List.mem_append_left _ ha), ?_, .inl ⟨rfl, mk_lst upd_same (RVs.keep (Ext.refl _) _ _ _ w1.own fun a ha => keep a (List.mem_append_right _ ha))⟩, fun z => ?_⟩
    · exact (List.perm_middle (a := p) (l₁ := F1) (l₂ := f1)).nodup_iff.mpr (List.nodup_cons.mpr ⟨np, w1.sta.nd⟩)
    · rcases List.mem_cons.mp ((List.perm_middle (a := p) (l₁ := F1) (l₂ := f1)).mem_iff.mp ha) with rfl | ha
      · cases q : Hf1 a with
        | none => rfl
        | some o => rw [w1.sta.sub a o q] at hp; cases hp
      · exact w1.sta.off a ha
    · refine w1.step.trans ⟨fun _ _ e => e, fun a o e _ => upd_sub hp a o e, fun a ha => ?_, fun _ _ e => .inl e⟩
      rcases List.mem_cons.mp ((List.perm_middle (a := p) (l₁ := F1) (l₂ := f1)).mem_iff.mp ha) with rfl | ha
      · exact .inr hp
      · exact .inl ha
    · obtain ⟨c1, c2, c3⟩ := w1.calm (by simpa only [CE.quiet] using z)
      exact ⟨c1, c2, fun a o e => upd_sub hp a o (c3 a o e)⟩
end
end Mini
set_option linter.all false
set_option maxRecDepth 10000
/-! M4d: dicts, items, slices, places. -/
namespace Mini
open PySem PySem.Spec L2
section
variable {K : PySem.W.Frag} {Φ : Phi} {σ : L2.St} {H : Hp} {Q : VK}
theorem Res.dnewK {Hf H : Hp} {p : Addr} (s : Sub Hf H) (hp : H p = none) : Res K Hf H (.dK true [] []) (.ref p) (upd H p (.dK [])) := by
  refine ⟨Hf, [p], upd_sub hp, fun _ _ e => e, fun a o e => upd_sub hp a o (s a o e), fun _ _ e => .inl e, by simp, fun a ha => ?_, mk_dK upd_same rfl (by simp only [RVs]; exact ⟨rfl, trivial⟩)⟩
  rw [List.mem_singleton.mp ha]; exact ⟨hp, s.none hp⟩
theorem Res.dnewT {Hf H : Hp} {p : Addr} (s : Sub Hf H) (hp : H p = none) : Res K Hf H (.dT true [] []) (.ref p) (upd H p (.dT [])) := by
  refine ⟨Hf, [p], upd_sub hp, fun _ _ e => e, fun a o e => upd_sub hp a o (s a o e), fun _ _ e => .inl e, by simp, fun a ha => ?_, mk_dT upd_same rfl (by simp only [RVs]; exact ⟨rfl, trivial⟩)⟩
  rw [List.mem_singleton.mp ha]; exact ⟨hp, s.none hp⟩
theorem im_dnewK (h : tE K Φ (.dnew false) σ H Q) : tDNewK σ H Q := by
  obtain ⟨Hf, F, ρ, s, sl, h⟩ := tE_iff.mp h
  simp only [den] at h
  exact fun p hp => h _ _ ((Res.dnewK s.sub hp).pst (G := []) (by simpa using s) sl.tr sl (by simpa using Step.refl Hf H F) fun _ => Calm.refl _ _ _)
theorem im_dnewT (h : tE K Φ (.dnew true) σ H Q) : tDNewT σ H Q := by
  obtain ⟨Hf, F, ρ, s, sl, h⟩ := tE_iff.mp h
  simp only [den] at h
  exact fun p hp => h _ _ ((Res.dnewT s.sub hp).pst (G := []) (by simpa using s) sl.tr sl (by simpa using Step.refl Hf H F) fun _ => Calm.refl _ _ _)
/-- a new record beside what is known -/
theorem Sta.upd_ {Hf H : Hp} {F : List Addr} {p : Addr} {o : HO} (s : Sta Hf H F) (hp : H p = none) : Sta Hf (upd H p o) F := ⟨s.nd, s.off, fun a u e => upd_sub hp a u (s.sub a u e)⟩
theorem RSl.upd_ {Hf H : Hp} {F : List Addr} {ρ : Env} {p : Addr} {o : HO} (sl : RSl K Hf H ρ σ F) (hp : H p = none) : RSl K Hf (upd H p o) ρ σ F :=
  RSl.keep (Ext.refl Hf) _ _ _ sl fun a ha => upd_ne fun e => by obtain ⟨o', q⟩ := sl.tr a ha; rw [e, hp] at q; cases q
theorem Step.new_ {Hf H : Hp} {F : List Addr} {p : Addr} {o : HO} (hp : H p = none) : Step Hf H F Hf (upd H p o) F := ⟨fun _ _ e => e, fun a u e _ => upd_sub hp a u e, fun a ha => .inl ha, fun _ _ e => .inl e⟩
theorem im_done {k v : CE} (h : tE K Φ (.done k v) σ H Q) : tDisp [(tE K Φ k, tE K Φ v)] σ H Q := by
  obtain ⟨Hf, F, ρ, s, sl, h⟩ := tE_iff.mp h
  simp only [den] at h
  obtain ⟨x, ρ1, e1, h⟩ := wish_bind h
  obtain ⟨y, ρ2, e2, h⟩ := wish_bind h
  obtain ⟨ht, h⟩ := wish_if h
  intro p hp
  have npF : p ∉ F := fun z => by obtain ⟨o, e⟩ := sl.tr p z; rw [hp] at e; cases e
  show tE K Φ k σ (upd H p (.dK [])) _
  refine tE_run (s.upd_ hp) (sl.upd_ hp) e1 fun u H1 Hf1 F1 f1 w1 => ?_
  have hp1 : H1 p = some (.dK []) := w1.step.keep p _ upd_same npF
  have np1 : p ∉ F1 ++ f1 := fun z => (w1.step.own p z).elim npF fun e => by rw [upd_same] at e; cases e
  refine tE_run w1.less w1.sl e2 fun w H2 Hf2 F2 f2 w2 => ?_
  have np1' : p ∉ F1 := fun z => np1 (List.mem_append_left _ z)
  have hp2 : H2 p = some (.dK []) := w2.step.keep p _ hp1 np1'
  have np2 : p ∉ F2 ++ f2 := fun z => (w2.step.own p z).elim np1' fun e => by rw [hp1] at e; cases e
  split at h
  · rename_i key ek
    obtain ⟨s1, s2⟩ := Step.by_ w1.sta w1.own.tracked w2.step w2.sta
    have ox : Opd K Hf1 H1 x.d u := w1.own.opd
    have eu : u = kV key := keyOf_V ox ek
    have oy : RV K Hf2 H2 y.d w f2 := by
      rcases w2.own with ⟨_, h⟩ | ⟨h, _⟩
      · exact h
      · rw [ht] at h; cases h
    refine ⟨hp2, [(key, w)], by rw [eu]; rfl, by simp, ?_⟩
    have em : mergeK [] [(key, w)] = [(key, w)] := rfl
    rw [em]
    have pf : Hf2 p = none := by
      cases q : Hf2 p with
      | none => rfl
      | some o =>
        exfalso
        -- p was new, so nothing frozen lies there
        have h0 : Hf p = none := s.sub |> fun sb => (Sub.none sb hp)
        rcases w1.st1.trans w2.st1 |>.new p o q with z | z | z | ⟨vs, z⟩
        · rw [h0] at z; cases z
        · exact npF z
        · rw [upd_same] at z; cases z
        · rw [upd_same] at z; cases z
    have keep : ∀ a, a ≠ p → upd H2 p (.dK [(key, w)]) a = H2 a := fun a ha => upd_ne ha
    have s3 : Sta (withF Hf2 H2 f2) H2 F2 := freeze_sta w2.sta
    have rf : RF K (withF Hf2 H2 f2) y.d.frz w := RV.freeze (.of withT_old) _ _ _ oy fun a ha => withF_at (fun b hb => w2.sta.off b (List.mem_append_right _ hb)) ha
    have pf2 : withF Hf2 H2 f2 p = none := by
      unfold withF withT
      rw [pf]
      have : p ∉ f2 := fun z => np2 (List.mem_append_right _ z)
      simp [this]
    have np2' : p ∉ F2 := fun z => np2 (List.mem_append_left _ z)
    refine h _ _ ⟨withF Hf2 H2 f2, F2, [p], ⟨?_, ?_, fun a o e => ?_⟩, RSl.keep (.of withT_old) _ _ _ w2.sl fun a ha => keep a fun e => np2' (e ▸ ha), ?_, .inl ⟨rfl, mk_dK upd_same rfl ?_⟩, fun z => ?_⟩
    · exact List.nodup_append.mpr ⟨s3.nd, by simp, fun a ha b hb e => by rw [List.mem_singleton.mp hb] at e; exact np2' (e ▸ ha)⟩
    · intro a ha
      rcases List.mem_append.mp ha with ha | ha
      · exact s3.off a ha
      · rw [List.mem_singleton.mp ha]; exact pf2
    · by_cases ea : a = p
      · subst ea; rw [pf2] at e; cases e
      · rw [keep a ea]; exact s3.sub a o e
    · have st : Step Hf H F Hf2 H2 (F2 ++ f2) := (Step.new_ hp).trans (w1.st1.trans w2.step)
      have st2 : Step Hf H F (withF Hf2 H2 f2) H2 F2 := st.trans freeze_step
      refine ⟨st2.hf, fun a o e ha => ?_, fun a ha => ?_, st2.new⟩
      · rw [keep a fun z => by rw [z, hp] at e; cases e]; exact st2.keep a o e ha
      · rcases List.mem_append.mp ha with ha | ha
        · exact st2.own a ha
        · rw [List.mem_singleton.mp ha]; exact .inr hp
    · simp only [RVs, List.map_cons, List.map_nil]
      exact ⟨w, [], [], [], rfl, rfl, RV.of_RF rf, rfl, rfl⟩
    · have z : (k.quiet && v.quiet) = true := z
      rw [Bool.and_eq_true] at z
      obtain ⟨c1, c2, c3⟩ := (w1.calm z.1).trans (w2.calm z.2)
      exact ⟨c1, c2, fun a o e => by rw [keep a fun q => by rw [q, hp] at e; cases e]; exact c3 a o (upd_sub hp a o e)⟩
  · exact False.elim h
theorem im_ix {a b : CE} (h : tE K Φ (.ix a b) σ H Q) : tOp (rIxD K) (tE K Φ a) (tE K Φ b) σ H Q := by
  obtain ⟨Hf, F, ρ, s, sl, h⟩ := tE_iff.mp h
  simp only [den] at h
  obtain ⟨x, ρ1, e1, h⟩ := wish_bind h
  obtain ⟨y, ρ2, e2, h⟩ := wish_bind h
  obtain ⟨ht, h⟩ := wish_if h
  refine tE_run s sl e1 fun v H1 Hf1 F1 f1 w1 => tE_run w1.less w1.sl e2 fun u H2 Hf2 F2 f2 w2 => ?_
  obtain ⟨p1, p2, p3, p4, p5⟩ := w1.two w2 ht
  rw [List.append_assoc] at p1 p2
  split at h
  · rename_i d ed
    have fin : ∀ (fd : List Addr), RV K Hf2 H2 x.d v fd → (d.pure = false → x.t = true ∧ ∀ a ∈ fd, a ∈ F2) → rIxD K v u H2 Q := fun fd hfd hnp => by
      refine ⟨Hf2, x.d, y.d, d, fd, p1.sub, hfd, p4.opd, ed, fun w f hf hw _ => ?_⟩
      cases hp : d.pure with
      | true =>
        simp only [hp, if_true] at h
        obtain ⟨_, rf⟩ := (RV.of_pure hp).mp hw
        exact h _ _ (Pst.plain rf p1 w2.sl p2 fun z => p5 (by simpa only [CE.quiet] using z))
      | false =>
        obtain ⟨q1, q2⟩ := hnp hp
        simp only [hp, q1, if_true, Bool.false_eq_true, if_false] at h
        refine h _ _ ⟨Hf2, F2, [], by simpa using p1.less (List.sublist_append_left _ _), w2.sl, by simpa using p2.mono fun a ha => List.mem_append_left _ ha, .inr ⟨rfl, rfl, f, fun a ha => q2 a (hf a ha), hw⟩, fun z => p5 (by simpa only [CE.quiet] using z)⟩
    rcases p3 with ⟨q1, q2⟩ | ⟨q1, rfl, f', q2, q3⟩
    · refine fin f1 q2 fun hp => ?_
      simp only [hp, q1, Bool.false_eq_true, if_false] at h
      exact False.elim h
    · exact fin f' q3 fun _ => ⟨q1, q2⟩
  · exact False.elim h
/-! ### slices -/
def tO (K : PySem.W.Frag) (Φ : Phi) (o : CO) : TO := fun σ H Q => ∃ Hf F ρ, Sta Hf H F ∧ RSl K Hf H ρ σ F ∧ match denO Φ o ρ with
  | .ok x ρ' => ∀ H', PstT K Hf H F ρ σ o.quiet ρ' H' → Q x H'
  | _ => False
theorem im_no {Q : Option Int → Hp → Prop} (h : tO K Φ .no σ H Q) : tNoPart σ H Q := by
  obtain ⟨Hf, F, ρ, s, sl, h⟩ := h
  simp only [denO] at h
  exact h H ⟨Hf, F, [], by simpa using s, sl, by simpa using Step.refl Hf H F, fun _ => Calm.refl _ _ _⟩
theorem im_yes {e : CE} {Q : Option Int → Hp → Prop} (h : tO K Φ (.yes e) σ H Q) : tPart (tE K Φ e) σ H Q := by
  obtain ⟨Hf, F, ρ, s, sl, h⟩ := h
  simp only [denO] at h
  cases q : den Φ e ρ with
  | ok x ρ' =>
    rw [q] at h
    simp only [Rx.bind] at h
    refine tE_run s sl q fun v H1 Hf1 F1 f1 w1 => ?_
    cases ex : x.d with
    | int i =>
      rw [ex] at h
      exact ⟨i, w1.intv ex, h H1 ⟨Hf1, F1, f1, w1.sta, w1.sl, w1.step, fun z => w1.calm (by simpa only [CO.quiet] using z)⟩⟩
    | _ => rw [ex] at h; exact False.elim h
  | exc x e => rw [q] at h; exact False.elim h
  | stuck => rw [q] at h; exact False.elim h
theorem tO_run {o : CO} {Q : Option Int → Hp → Prop} {Hf : Hp} {F : List Addr} {ρ ρ' : Env} {x : Option Int} (s : Sta Hf H F) (sl : RSl K Hf H ρ σ F) (hd : denO Φ o ρ = .ok x ρ')
    (h : ∀ H' Hf' F' f, Sta Hf' H' (F' ++ f) → RSl K Hf' H' ρ' σ F' → Step Hf H F Hf' H' (F' ++ f) → (o.quiet = true → Calm ρ ρ' F F' H H') → Q x H') : tO K Φ o σ H Q :=
  ⟨Hf, F, ρ, s, sl, by rw [hd]; exact fun H' ⟨Hf', F', f, h1, h2, h3, h4⟩ => h H' Hf' F' f h1 h2 h3 h4⟩
theorem im_slc {a : CE} {lo hi : CO} (h : tE K Φ (.slc a lo hi) σ H Q) : tSl (rSlD K) (tE K Φ a) (tO K Φ lo) (tO K Φ hi) σ H Q := by
  obtain ⟨Hf, F, ρ, s, sl, h⟩ := tE_iff.mp h
  simp only [den] at h
  obtain ⟨x, ρ1, e1, h⟩ := wish_bind h
  obtain ⟨l, ρ2, e2, h⟩ := wish_bind h
  obtain ⟨u, ρ3, e3, h⟩ := wish_bind h
  obtain ⟨ht, h⟩ := wish_if h
  obtain ⟨r, e4, h⟩ := wish_vOf h
  refine tE_run s sl e1 fun v H1 Hf1 F1 f1 w1 => tO_run w1.less w1.sl e2 fun H2 Hf2 F2 f2 a1 a2 a3 a4 => tO_run (a1.less (List.sublist_append_left _ _)) a2 e3 fun H3 Hf3 F3 f3 b1 b2 b3 b4 => ?_
  -- both bounds as one step
  have st : Step Hf1 H1 F1 Hf3 H3 (F3 ++ f3) := (a3.mono fun _ ha => List.mem_append_left _ ha).trans b3
  have cq : (lo.quiet && hi.quiet) = true → Calm ρ1 ρ3 F1 F3 H1 H3 := fun z => by
    rw [Bool.and_eq_true] at z
    exact (a4 z.1).trans (b4 z.2)
  obtain ⟨s1, s2⟩ := Step.by_ w1.sta w1.own.tracked st b1
  have o3 := w1.own.by_ ⟨σ, w1.sl⟩ st s2 cq ht
  have s1' : Sta Hf3 H3 (F3 ++ (f3 ++ f1)) := by rw [← List.append_assoc]; exact s1
  refine ⟨Hf3, x.d, r, s1'.sub, o3.opd, e4, fun w H4 hr => h w H4 (hr.pst s1' b2.tr b2 ?_ fun z => ?_)⟩
  · have := w1.step.trans st.wide
    rwa [List.append_assoc] at this
  · have z : (a.quiet && lo.quiet && hi.quiet) = true := z
    rw [Bool.and_assoc, Bool.and_eq_true] at z
    exact (w1.calm z.1).trans (cq z.2)
theorem im_b2 {b : B2} {a c : CE} (h : tE K Φ (.b2 b a c) σ H Q) : tCB (fun xs H Q => ∃ i j, xs = [.int i, .int j] ∧ Q (match b with | .max => .int (if j > i then j else i) | .min => .int (if j < i then j else i)) H) (tCons (tE K Φ a) (tCons (tE K Φ c) tNil)) σ H Q := by
  obtain ⟨Hf, F, ρ, s, sl, h⟩ := tE_iff.mp h
  simp only [den] at h
  obtain ⟨x, ρ1, e1, h⟩ := wish_bind h
  obtain ⟨y, ρ2, e2, h⟩ := wish_bind h
  obtain ⟨r, e4, h⟩ := wish_vOf h
  refine tE_run s sl e1 fun v H1 Hf1 F1 f1 w1 => tE_run w1.less w1.sl e2 fun u H2 Hf2 F2 f2 w2 => ?_
  have fin : ∀ {i j n : Int}, x.d = .int i → y.d = .int j → r = .int n → ∃ i' j', [v, u] = [V.int i', .int j'] ∧ i' = i ∧ j' = j ∧ Q (.int n) H2 := fun {i j n} ex ey er => by
    have ev := w1.intv ex
    have eu := w2.intv ey
    subst ev eu
    refine ⟨i, j, rfl, rfl, rfl, h _ _ ?_⟩
    rw [er]
    exact (Res.int w2.sta.sub).pst w2.sta w2.sl.tr w2.sl (w1.st1.trans w2.step) fun z => by
      have z : (a.quiet && c.quiet) = true := z
      rw [Bool.and_eq_true] at z
      exact (w1.calm z.1).trans (w2.calm z.2)
  cases b with
  | max =>
    unfold b2D at e4
    split at e4
    · rename_i i j _ ex ey
      cases e4
      obtain ⟨i', j', e, rfl, rfl, q⟩ := fin ex ey rfl
      exact ⟨i', j', e, q⟩
    · rename_i q _ _; cases q
    · cases e4
  | min =>
    unfold b2D at e4
    split at e4
    · rename_i q _ _; cases q
    · rename_i i j _ ex ey
      cases e4
      obtain ⟨i', j', e, rfl, rfl, q⟩ := fin ex ey rfl
      exact ⟨i', j', e, q⟩
    · cases e4
end
end Mini
set_option linter.all false
set_option maxRecDepth 10000
/-! M4e: places within what a name owns; methods that change. -/
namespace Mini
open PySem PySem.Spec L2
/-- the value at the place ks -/
def AtV (H : Hp) : D → V → List D → V → Prop
  | _, w, [], v => v = w
  | d, w, k :: ks, v => ∃ c u, ixD d k = some c ∧ ChildV H d k w u ∧ AtV H c u ks v
theorem ChildV.keep {H H' : Hp} (k : ∀ a o, H a = some o → H' a = some o) {d e : D} {w u : V} (h : ChildV H d e w u) : ChildV H' d e w u := by
  unfold ChildV at h ⊢
  split at h
  · obtain ⟨a, vs, j, h1, h2, h3, h4⟩ := h; exact ⟨a, vs, j, h1, k _ _ h2, h3, h4⟩
  · obtain ⟨a, vs, j, h1, h2, h3, h4⟩ := h; exact ⟨a, vs, j, h1, k _ _ h2, h3, h4⟩
  · obtain ⟨a, vs, j, h1, h2, h3, h4⟩ := h; exact ⟨a, vs, j, h1, k _ _ h2, h3, h4⟩
  · rename_i a b c
    trivial
theorem AtV.keep {H H' : Hp} (k : ∀ a o, H a = some o → H' a = some o) : ∀ {d : D} {w : V} {ks : List D} {v : V}, AtV H d w ks v → AtV H' d w ks v
  | d, w, [], v, h => h
  | d, w, x :: ks, v, h => by
    obtain ⟨c, u, h1, h2, h3⟩ := h
    exact ⟨c, u, h1, h2.keep k, AtV.keep k h3⟩
theorem AtV.snoc {H : Hp} : ∀ {d : D} {w : V} {ks : List D} {v : V} {c : D} {x : D} {e : D} {u : V}, AtV H d w ks v → walkD d ks = some c → ixD c x = some e → ChildV H c x v u → AtV H d w (ks ++ [x]) u
  | d, w, [], v, c, x, e, u, h, hw, h1, h2 => by
    cases hw
    cases h
    exact ⟨e, u, h1, h2, rfl⟩
  | d, w, y :: ks, v, c, x, e, u, h, hw, h1, h2 => by
    obtain ⟨c0, u0, g1, g2, g3⟩ := h
    unfold walkD at hw
    rw [g1] at hw
    exact ⟨c0, u0, g1, g2, AtV.snoc g3 hw h1 h2⟩
theorem walkD_snoc : ∀ {d : D} {ks : List D} {x : D}, walkD d (ks ++ [x]) = (walkD d ks).bind fun c => ixD c x
  | d, [], x => by
    simp only [List.nil_append, walkD, Option.bind_some]
    cases ixD d x <;> rfl
  | d, y :: ks, x => by
    simp only [List.cons_append, walkD]
    cases ixD d y with
    | none => rfl
    | some c => exact walkD_snoc (d := c) (ks := ks)
section
variable {K : PySem.W.Frag}
theorem setK_keep {κ : Type} [DecidableEq κ] {kvs : List (κ × V)} {ds : List D} {k : κ} {c : D} (hl : ds.length = kvs.length) (h : lookK (kvs.map (·.1)) ds k = some c) :
    ∃ i, ds[i]? = some c ∧ (∀ y, setK (kvs.map (·.1)) ds k y = ds.set i y) ∧ ∀ u, valV kvs k = some u → (kvs.map (·.2))[i]? = some u := by
  obtain ⟨m1, m2⟩ := lookK_idx _ _ _ _ h
  exact ⟨_, m2, fun y => by rw [setK_set _ _ _ _ (by simpa using hl), if_pos m1], fun u hu => valV_idx kvs k u hu⟩
/-- the thing at a place, and another in its place -/
theorem tree_focus {α : Type} {f : D → Option (α × D)} {Hf H : Hp} : ∀ {ks : List D} {d d' : D} {w v : V} {g : List Addr} {a : α}, RV K Hf H d w g → AtV H d w ks v → updAt f ks d = some (a, d') →
    ∃ c c' gs rest, f c = some (a, c') ∧ RV K Hf H c v gs ∧ g.Perm (gs ++ rest) ∧ ∀ Hf' H' gs', Ext Hf Hf' → (∀ b ∈ rest, H' b = H b) → RV K Hf' H' c' v gs' → ∃ g', g'.Perm (gs' ++ rest) ∧ RV K Hf' H' d' w g'
  | [], d, d', w, v, g, a, h, hat, hu => by
    cases hat
    exact ⟨d, d', g, [], hu, h, by simp, fun Hf' H' gs' e k r => ⟨gs', by simp, r⟩⟩
  | k :: ks, d, d', w, v, g, a, h, hat, hu => by
    obtain ⟨c0, u, h1, h2, h3⟩ := hat
    unfold updAt at hu
    rw [h1] at hu
    simp only [Option.bind_some] at hu
    obtain ⟨⟨a', c1⟩, q1, q2⟩ := Option.bind_eq_some_iff.mp hu
    obtain ⟨d2, q3, q4⟩ := Option.map_eq_some_iff.mp q2
    cases q4
    unfold putIx at q3
    split at q3
    · rename_i xs i
      obtain ⟨b, vs, g0, rfl, rfl, e1, e2⟩ := owned_lst h
      obtain ⟨j, ej, er⟩ := Option.map_eq_some_iff.mp q3
      cases er
      have hc0 : xs[j]? = some c0 := by
        have : atI xs i = some c0 := h1
        unfold atI at this
        rw [ej] at this; exact this
      obtain ⟨b2, vs2, j2, z1, z2, z3, z4⟩ := h2
      cases z1
      rw [e1] at z2; cases z2
      rw [ej] at z3; cases z3
      obtain ⟨v0, g1, rest, f1, f2, f3, f4, f5⟩ := e2.focus hc0
      rw [z4] at f1; cases f1
      obtain ⟨c, c', gs, rest2, p1, p2, p3, p4⟩ := tree_focus f3 h3 q1
      refine ⟨c, c', gs, b :: (rest2 ++ rest), p1, p2, ?_, fun Hf' H' gs' e k r => ?_⟩
      · have x1 : (b :: g0).Perm (b :: (gs ++ (rest2 ++ rest))) := by
          refine List.Perm.cons b (f2.trans ?_)
          rw [← List.append_assoc]; exact p3.append_right rest
        exact x1.trans (List.perm_middle (a := b) (l₁ := gs) (l₂ := rest2 ++ rest)).symm
      · obtain ⟨g2, r1, r2⟩ := p4 Hf' H' gs' e (fun x hx => k x (List.mem_cons_of_mem _ (List.mem_append_left _ hx))) r
        obtain ⟨g3, r3, r4⟩ := f5 Hf' H' c1 u g2 e (fun x hx => k x (List.mem_cons_of_mem _ (List.mem_append_right _ hx))) r2
        have ev : vs.set j u = vs := by
          refine List.ext_getElem? fun i => ?_
          by_cases hi : j = i
          · subst hi; rw [List.getElem?_set_self (List.getElem?_eq_some_iff.mp z4).1, z4]
          · rw [List.getElem?_set_ne hi]
        rw [ev] at r4
        refine ⟨b :: g3, ?_, mk_lst ((k b List.mem_cons_self).trans e1) r4⟩
        have x1 : (b :: g3).Perm (b :: (gs' ++ (rest2 ++ rest))) := by
          refine List.Perm.cons b (r3.trans ?_)
          rw [← List.append_assoc]; exact r1.append_right rest
        exact x1.trans (List.perm_middle (a := b) (l₁ := gs') (l₂ := rest2 ++ rest)).symm
    · rename_i ks0 ds
      obtain ⟨b, kvs, g0, rfl, rfl, e1, rfl, e2⟩ := owned_dK h
      obtain ⟨kk, ek, q3⟩ := Option.bind_eq_some_iff.mp q3
      split at q3
      · cases q3
        obtain ⟨b2, vs2, j2, z1, z2, z3, z4⟩ := (show ∃ a kvs' key', V.ref b = .ref a ∧ H a = some (.dK kvs') ∧ keyOf k = some key' ∧ valV kvs' key' = some u by simpa only [ChildV] using h2)
        cases z1
        rw [e1] at z2; cases z2
        rw [ek] at z3; cases z3
        have hl : ds.length = kvs.length := by have := e2.length; simpa using this.symm
        have hlook : lookK (kvs.map (·.1)) ds kk = some c0 := by
          have : (keyOf k).bind (fun k => lookK (kvs.map (·.1)) ds k) = some c0 := by cases k <;> exact h1
          rw [ek] at this; exact this
        obtain ⟨i, i1, i2, i3⟩ := setK_keep hl hlook
        obtain ⟨v0, g1, rest, f1, f2, f3, f4, f5⟩ := e2.focus i1
        rw [i3 u z4] at f1; cases f1
        obtain ⟨c, c', gs, rest2, p1, p2, p3, p4⟩ := tree_focus f3 h3 q1
        refine ⟨c, c', gs, b :: (rest2 ++ rest), p1, p2, ?_, fun Hf' H' gs' e k r => ?_⟩
        · have x1 : (b :: g0).Perm (b :: (gs ++ (rest2 ++ rest))) := by
            refine List.Perm.cons b (f2.trans ?_)
            rw [← List.append_assoc]; exact p3.append_right rest
          exact x1.trans (List.perm_middle (a := b) (l₁ := gs) (l₂ := rest2 ++ rest)).symm
        · obtain ⟨g2, r1, r2⟩ := p4 Hf' H' gs' e (fun x hx => k x (List.mem_cons_of_mem _ (List.mem_append_left _ hx))) r
          obtain ⟨g3, r3, r4⟩ := f5 Hf' H' c1 u g2 e (fun x hx => k x (List.mem_cons_of_mem _ (List.mem_append_right _ hx))) r2
          have ev : (kvs.map (·.2)).set i u = kvs.map (·.2) := by
            refine List.ext_getElem? fun j => ?_
            by_cases hi : i = j
            · subst hi; rw [List.getElem?_set_self (List.getElem?_eq_some_iff.mp (i3 u z4)).1, i3 u z4]
            · rw [List.getElem?_set_ne hi]
          rw [ev, ← i2] at r4
          refine ⟨b :: g3, ?_, mk_dK ((k b List.mem_cons_self).trans e1) rfl r4⟩
          have x1 : (b :: g3).Perm (b :: (gs' ++ (rest2 ++ rest))) := by
            refine List.Perm.cons b (r3.trans ?_)
            rw [← List.append_assoc]; exact r1.append_right rest
          exact x1.trans (List.perm_middle (a := b) (l₁ := gs') (l₂ := rest2 ++ rest)).symm
      · cases q3
    · rename_i ks0 ds
      obtain ⟨b, kvs, g0, rfl, rfl, e1, rfl, e2⟩ := owned_dT h
      obtain ⟨kk, ek, q3⟩ := Option.bind_eq_some_iff.mp q3
      split at q3
      · cases q3
        obtain ⟨b2, vs2, j2, z1, z2, z3, z4⟩ := (show ∃ a kvs' key', V.ref b = .ref a ∧ H a = some (.dT kvs') ∧ keyTOf k = some key' ∧ valV kvs' key' = some u by simpa only [ChildV] using h2)
        cases z1
        rw [e1] at z2; cases z2
        rw [ek] at z3; cases z3
        have hl : ds.length = kvs.length := by have := e2.length; simpa using this.symm
        have hlook : lookK (kvs.map (·.1)) ds kk = some c0 := by
          have : (keyTOf k).bind (fun k => lookK (kvs.map (·.1)) ds k) = some c0 := by cases k <;> exact h1
          rw [ek] at this; exact this
        obtain ⟨i, i1, i2, i3⟩ := setK_keep hl hlook
        obtain ⟨v0, g1, rest, f1, f2, f3, f4, f5⟩ := e2.focus i1
        rw [i3 u z4] at f1; cases f1
        obtain ⟨c, c', gs, rest2, p1, p2, p3, p4⟩ := tree_focus f3 h3 q1
        refine ⟨c, c', gs, b :: (rest2 ++ rest), p1, p2, ?_, fun Hf' H' gs' e k r => ?_⟩
        · have x1 : (b :: g0).Perm (b :: (gs ++ (rest2 ++ rest))) := by
            refine List.Perm.cons b (f2.trans ?_)
            rw [← List.append_assoc]; exact p3.append_right rest
          exact x1.trans (List.perm_middle (a := b) (l₁ := gs) (l₂ := rest2 ++ rest)).symm
        · obtain ⟨g2, r1, r2⟩ := p4 Hf' H' gs' e (fun x hx => k x (List.mem_cons_of_mem _ (List.mem_append_left _ hx))) r
          obtain ⟨g3, r3, r4⟩ := f5 Hf' H' c1 u g2 e (fun x hx => k x (List.mem_cons_of_mem _ (List.mem_append_right _ hx))) r2
          have ev : (kvs.map (·.2)).set i u = kvs.map (·.2) := by
            refine List.ext_getElem? fun j => ?_
            by_cases hi : i = j
            · subst hi; rw [List.getElem?_set_self (List.getElem?_eq_some_iff.mp (i3 u z4)).1, i3 u z4]
            · rw [List.getElem?_set_ne hi]
          rw [ev, ← i2] at r4
          refine ⟨b :: g3, ?_, mk_dT ((k b List.mem_cons_self).trans e1) rfl r4⟩
          have x1 : (b :: g3).Perm (b :: (gs' ++ (rest2 ++ rest))) := by
            refine List.Perm.cons b (r3.trans ?_)
            rw [← List.append_assoc]; exact r1.append_right rest
          exact x1.trans (List.perm_middle (a := b) (l₁ := gs') (l₂ := rest2 ++ rest)).symm
      · cases q3
    · cases q3
end
end Mini
set_option linter.all false
set_option maxRecDepth 10000
/-! M4f: methods at a place. -/
namespace Mini
open PySem PySem.Spec L2
section
variable {K : PySem.W.Frag} {Φ : Phi} {σ : L2.St} {H : Hp} {Q : VK}
structure PstP (K : PySem.W.Frag) (Hf H : Hp) (F : List Addr) (ρ : Env) (σ : L2.St) (q : Bool) (root : Nat) (ks : List D) (ρ' : Env) (v : V) (H' : Hp) (Hf' : Hp) (F' : List Addr) : Prop where
  sta : Sta Hf' H' F'
  sl : RSl K Hf' H' ρ' σ F'
  step : Step Hf H F Hf' H' F'
  calm : q = true → Calm ρ ρ' F F' H H'
  at_ : ∃ d w c fd, getS ρ' root = some d ∧ σ[root]? = some (some w) ∧ AtV H' d w ks v ∧ walkD d ks = some c ∧ RV K Hf' H' c v fd ∧ ∀ a ∈ fd, a ∈ F'
def tP (K : PySem.W.Frag) (Φ : Phi) (p : CP) : TE := fun σ H Q => ∃ Hf F ρ, Sta Hf H F ∧ RSl K Hf H ρ σ F ∧ match denP Φ p ρ with
  | .ok ks ρ' => ∀ v H', (∃ Hf' F', PstP K Hf H F ρ σ p.quiet p.root ks ρ' v H' Hf' F') → Q v H'
  | _ => False
theorem tP_run {p : CP} {Hf : Hp} {F : List Addr} {ρ ρ' : Env} {ks : List D} (s : Sta Hf H F) (sl : RSl K Hf H ρ σ F) (hd : denP Φ p ρ = .ok ks ρ') (h : ∀ v H' Hf' F', PstP K Hf H F ρ σ p.quiet p.root ks ρ' v H' Hf' F' → Q v H') : tP K Φ p σ H Q :=
  ⟨Hf, F, ρ, s, sl, by rw [hd]; exact fun v H' ⟨Hf', F', w⟩ => h v H' Hf' F' w⟩
theorem im_pvar {i : Nat} (h : tP K Φ (.var i) σ H Q) : tVar i σ H Q := by
  obtain ⟨Hf, F, ρ, s, sl, h⟩ := h
  simp only [denP] at h
  cases e : getS ρ i with
  | none => simp only [e, Option.isSome_none, Bool.false_eq_true, if_false] at h
  | some d =>
    simp only [e, Option.isSome_some, if_true] at h
    obtain ⟨v, g, rest, h1, h2, h3, h4⟩ := sl.take e
    exact ⟨v, h1, h v H ⟨Hf, F, s, sl, Step.refl _ _ _, fun _ => Calm.refl _ _ _, d, v, d, g, e, h1, rfl, rfl, h3, fun a ha => h2.mem_iff.mpr (List.mem_append_left _ ha)⟩⟩
theorem im_pix {p : CP} {e : CE} (h : tP K Φ (.ix p e) σ H Q) : tOp (rIxD K) (tP K Φ p) (tE K Φ e) σ H Q := by
  obtain ⟨Hf, F, ρ, s, sl, h⟩ := h
  simp only [denP] at h
  by_cases hq : (p.quiet && e.quiet) = true
  · rw [if_pos hq] at h
    rw [Bool.and_eq_true] at hq
    cases q : denP Φ p ρ with
    | ok ks ρ1 =>
      rw [q] at h
      simp only [Rx.bind] at h
      refine tP_run s sl q fun v H1 Hf1 F1 w1 => ?_
      cases q2 : den Φ e ρ1 with
      | ok x ρ2 =>
        rw [q2] at h
        simp only at h
        refine tE_run w1.sta w1.sl q2 fun u H2 Hf2 F2 f2 w2 => ?_
        obtain ⟨d, w, c, fd, a1, a2, a3, a4, a5, a6⟩ := w1.at_
        obtain ⟨c1, c2, c3⟩ := w2.calm hq.2
        subst c1
        have a1' : getS ρ2 (CP.ix p e).root = some d := a1
        by_cases hs : (((getS ρ2 p.root).bind fun d => walkD d (ks ++ [x.d])).isSome) = true
        · rw [if_pos hs] at h
          obtain ⟨r, hr⟩ := Option.isSome_iff_exists.mp hs
          rw [a1, Option.bind_some, walkD_snoc, a4, Option.bind_some] at hr
          have k5 : RV K Hf2 H2 c v fd := RV.keep w2.step.ext _ _ _ a5 fun a ha => by
            obtain ⟨o, e1, _⟩ := RV.tracked _ _ _ a5 a ha
            rw [e1]; exact c3 a o e1
          refine ⟨Hf2, c, x.d, r, fd, w2.sta.sub, k5, w2.own.opd, hr, fun y f hf hy hc => h y H2 ⟨Hf2, F2, w2.less, w2.sl, w1.step.trans w2.st1, fun _ => (w1.calm hq.1).trans (w2.calm hq.2), d, w, r, f, a1', a2, (a3.keep c3).snoc a4 hr hc, ?_, hy, fun a ha => c2 a (a6 a (hf a ha))⟩⟩
          rw [walkD_snoc, a4]; exact hr
        · rw [if_neg hs] at h; exact False.elim h
      | exc x e => rw [q2] at h; exact False.elim h
      | stuck => rw [q2] at h; exact False.elim h
    | exc x e => rw [q] at h; exact False.elim h
    | stuck => rw [q] at h; exact False.elim h
  · rw [if_neg hq] at h; exact False.elim h
/-- a state behind a change -/
theorem mut_sta {Hf H H' : Hp} {G gs f R gs' fy : List Addr} {c' y : D} {w v : V} (s : Sta Hf H G) (p : G.Perm (gs ++ (f ++ R))) (m : MutR K Hf H H' c' w gs' y v fy gs f) :
    Sta Hf H' ((gs' ++ fy) ++ R) ∧ Step Hf H G Hf H' ((gs' ++ fy) ++ R) ∧ ∀ a ∈ R, H' a = H a := by
  have nd := p.nodup_iff.mp s.nd
  rw [← List.append_assoc] at nd
  obtain ⟨n1, n2, n3⟩ := List.nodup_append.mp nd
  have hg : ∀ a ∈ gs, a ∈ G := fun a ha => p.mem_iff.mpr (List.mem_append_left _ ha)
  have hin : ∀ a ∈ (gs' ++ fy) ++ R, a ∈ G := fun a ha => by
    refine p.mem_iff.mpr ?_
    rw [← List.append_assoc]
    rcases List.mem_append.mp ha with h | h
    · exact List.mem_append_left _ (m.sub a h)
    · exact List.mem_append_right _ h
  refine ⟨⟨List.nodup_append.mpr ⟨m.nd, n2, fun a ha b hb e => n3 a (m.sub a ha) b hb e⟩, fun a ha => s.off a (hin a ha), fun a o e => ?_⟩, ⟨fun _ _ e => e, fun a o e ha => ?_, fun a ha => .inl (hin a ha), fun _ _ e => .inl e⟩, fun a ha => m.keep a fun z => n3 a (List.mem_append_left _ z) a ha rfl⟩
  · rw [m.keep a fun z => by rw [s.off a (hg a z)] at e; cases e]; exact s.sub a o e
  · rw [m.keep a fun z => ha (hg a z)]; exact e
def Mt.T : Mt → String
  | .dpop => "dict"
  | _ => "list"
theorem mtK_ty {m : Mt} {c : D} {Hf H : Hp} {v : V} {f : List Addr} (h : mtK m c = true) (r : RV K Hf H c v f) : tyV K m.T v H := by
  unfold mtK at h
  split at h
  · obtain ⟨a, kvs, g, rfl, _, h1, _⟩ := owned_dT r
    exact .inr (.inr (.inl ⟨rfl, .inr ⟨kvs, h1⟩⟩))
  · cases h
  · rename_i hm
    obtain ⟨a, vs, g, rfl, _, h1, _⟩ := owned_lst r
    refine .inl ⟨?_, vs, .inl (.inl h1)⟩
    cases m <;> first | rfl | exact (hm rfl).elim
  · cases h
theorem im_mth {p : CP} {m : Mt} {es : CEs} (h : tE K Φ (.mth p m es) σ H Q) : tBM K m.T (rMt K m) (tP K Φ p) (tEs K Φ es) σ H Q := by
  obtain ⟨Hf, F, ρ, s, sl, h⟩ := tE_iff.mp h
  simp only [den] at h
  obtain ⟨ks, ρ1, e1, h⟩ := wish_bind h
  obtain ⟨hk, h⟩ := wish_if h
  obtain ⟨xs, ρ2, e2, h⟩ := wish_bind h
  obtain ⟨hq, h⟩ := wish_if h
  refine tP_run s sl e1 fun v H1 Hf1 F1 w1 => ?_
  obtain ⟨d, w, c, fd, a1, a2, a3, a4, a5, a6⟩ := w1.at_
  rw [a1, Option.bind_some, a4] at hk
  refine ⟨mtK_ty (by simpa using hk) a5, tEs_run w1.sta w1.sl e2 fun vs H2 Hf2 F2 f2 w2 => ?_⟩
  cases qm : mtF m xs with
  | none => rw [qm] at h; exact False.elim h
  | some f =>
    rw [qm] at h
    simp only at h
    cases qu : ((getS ρ2 p.root).bind fun d => updAt f ks d) with
    | none => rw [qu] at h; exact False.elim h
    | some r =>
      obtain ⟨y, d'⟩ := r
      rw [qu] at h
      obtain ⟨d2, b1, b2⟩ := Option.bind_eq_some_iff.mp qu
      obtain ⟨w0, g, rest, t1, t2, t3, t4⟩ := w2.sl.take b1
      rw [a2] at t1; cases t1
      have hat : AtV H2 d2 w ks v := by
        simp only [Bool.not_eq_false', Bool.or_eq_true] at hq
        rcases hq with hq | hq
        · cases p with
          | var i =>
            simp only [denP] at e1
            split at e1
            · cases e1; exact a3
            · cases e1
          | ix p e => cases hq
        · obtain ⟨c1, c2, c3⟩ := w2.calm hq
          subst c1
          rw [a1] at b1; cases b1
          exact a3.keep c3
      obtain ⟨c2, c', gs, rest2, p1, p2, p3, p4⟩ := tree_focus t3 hat b2
      have pG : (F2 ++ f2).Perm (gs ++ (f2 ++ (rest2 ++ rest))) := by
        have x1 : F2.Perm (gs ++ (rest2 ++ rest)) := t2.trans (by rw [← List.append_assoc]; exact p3.append_right rest)
        refine (x1.append_right f2).trans ?_
        rw [List.append_assoc]
        exact (List.perm_append_comm (l₁ := rest2 ++ rest) (l₂ := f2)).append_left gs
      have nd : (gs ++ f2).Nodup := by
        have := pG.nodup_iff.mp w2.sta.nd
        rw [← List.append_assoc] at this
        exact (List.nodup_append.mp this).1
      refine ⟨Hf2, c2, xs, gs, f2, f, y, c', w2.sta.sub, nd, p2, w2.own, qm, p1, fun v' H' gs' fy mr => h v' H' ?_⟩
      obtain ⟨s3, st3, k3⟩ := mut_sta w2.sta pG mr
      obtain ⟨g', r1, r2⟩ := p4 Hf2 H' gs' (Ext.refl _) (fun b hb => k3 b (List.mem_append_left _ hb)) mr.tree
      have sl3 : RSl K Hf2 H' (ρ2.set p.root none) σ rest := RSl.keep (Ext.refl _) _ _ _ t4 fun b hb => k3 b (List.mem_append_right _ hb)
      obtain ⟨F', q1, q2⟩ := sl3.give (set_none_at (getS_lt b1)) a2 r2
      rw [set_set] at q2
      have pF : ((gs' ++ fy) ++ (rest2 ++ rest)).Perm (F' ++ fy) := by
        have x1 : F'.Perm (gs' ++ (rest2 ++ rest)) := q1.trans (by rw [← List.append_assoc]; exact r1.append_right rest)
        refine List.Perm.symm ((x1.append_right fy).trans ?_)
        have z := (List.perm_append_comm (l₁ := rest2 ++ rest) (l₂ := fy)).append_left gs'
        simpa only [List.append_assoc] using z
      have st : Step Hf H F Hf2 H2 (F2 ++ f2) := w1.step.trans w2.step
      exact ⟨Hf2, F', fy, s3.perm pF, q2, (st.trans st3).perm pF, .inl ⟨rfl, mr.res⟩, fun z => nomatch (show false = true from z)⟩
end
end Mini
set_option linter.all false
set_option maxRecDepth 10000
/-! M4g: what is walked; targets. -/
namespace Mini
open PySem PySem.Spec L2
/-- the items stand while H does this -/
def Stay (t : Bool) (Hf' H' H : Hp) : Prop := (t = true → ∀ a o, H' a = some o → H a = some o) ∧ (t = false → Sub Hf' H)
structure WalkD (K : PySem.W.Frag) (Hf' H' : Hp) (J : It) (xs : List D) (t : Bool) : Prop where
  goes : ∀ i H, i < xs.length → Stay t Hf' H' H → J.go i H
  stops : ∀ H, Stay t Hf' H' H → J.stop xs.length H
  yields : ∀ i H x H2 Hf, i < xs.length → Stay t Hf' H' H → Sub Hf H → (∀ a o, Hf' a = some o → Hf a = some o) → J.yld i H x H2 → ∃ d, xs[i]? = some d ∧ Res K Hf H d x H2
section
variable {K : PySem.W.Frag}
theorem RFs.got {H : Hp} {ds : List D} {vs : List V} (h : RFs K H ds vs) {i : Nat} (hi : i < ds.length) : ∃ d v, ds[i]? = some d ∧ vs[i]? = some v ∧ RF K H d v := by
  obtain ⟨v, h1, h2⟩ := h.get (List.getElem?_eq_getElem hi)
  exact ⟨_, v, List.getElem?_eq_getElem hi, h1, h2⟩
theorem WalkD.list {Hf' H' : Hp} {a : Addr} {vs : List V} {xs : List D} {t : Bool} (hr : RFs K Hf' xs vs) (hs : ∀ H, Stay t Hf' H' H → SqL K H a vs) : WalkD K Hf' H' (Itl K a) xs t := by
  have hl := hr.length
  refine ⟨fun i H hi hg => walk_list.goes i H (by omega) (hs H hg), fun H hg => by rw [← hl]; exact walk_list.stops H (hs H hg), fun i H x H2 Hf hi hg sb hf y => ?_⟩
  obtain ⟨e, h1⟩ := (walk_list (K := K) (a := a) (xs := vs)).yields i H x H2 (by omega) (hs H hg) y
  obtain ⟨d, v, h2, h3, h4⟩ := hr.got hi
  rw [h1] at h3; cases h3
  subst e
  exact ⟨d, h2, Res.same sb (RF.ext (.of hf) _ _ h4)⟩
theorem WalkD.tup {Hf' H' : Hp} {a : Addr} {vs : List V} {xs : List D} {t : Bool} (hr : RFs K Hf' xs vs) (hs : ∀ H, Stay t Hf' H' H → SqT K H a vs) : WalkD K Hf' H' (Itt K a) xs t := by
  have hl := hr.length
  refine ⟨fun i H hi hg => walk_tup.goes i H (by omega) (hs H hg), fun H hg => by rw [← hl]; exact walk_tup.stops H (hs H hg), fun i H x H2 Hf hi hg sb hf y => ?_⟩
  obtain ⟨e, h1⟩ := (walk_tup (K := K) (a := a) (xs := vs)).yields i H x H2 (by omega) (hs H hg) y
  obtain ⟨d, v, h2, h3, h4⟩ := hr.got hi
  rw [h1] at h3; cases h3
  subst e
  exact ⟨d, h2, Res.same sb (RF.ext (.of hf) _ _ h4)⟩
theorem rangeD_get (lo : Int) (n i : Nat) (hi : i < n) : (rangeD lo n)[i]? = some (.int (lo + i)) := by
  unfold rangeD
  rw [List.getElem?_map, List.getElem?_range hi]; rfl
theorem rangeD_len (lo : Int) (n : Nat) : (rangeD lo n).length = n := by simp [rangeD]
theorem rangeD_pures (lo : Int) (n : Nat) : D.pures (rangeD lo n) = true := by
  unfold D.pures rangeD
  rw [List.all_eq_true]
  intro d hd
  obtain ⟨i, _, rfl⟩ := List.mem_map.mp hd
  rfl
theorem WalkD.range {Hf' H' : Hp} {lo : Int} {n : Nat} {t : Bool} : WalkD K Hf' H' (Itr lo n) (rangeD lo n) t := by
  refine ⟨fun i H hi _ => walk_range.goes i H (by rw [rangeD_len] at hi; exact hi) trivial, fun H _ => by rw [rangeD_len]; exact walk_range.stops H trivial, fun i H x H2 Hf hi _ sb hf y => ?_⟩
  rw [rangeD_len] at hi
  obtain ⟨e, h1⟩ := (walk_range (lo := lo) (n := n)).yields i H x H2 hi trivial y
  subst e h1
  exact ⟨_, rangeD_get lo n i hi, Res.int sb⟩
theorem zipIdxD_len (xs : List D) : (zipIdxD xs).length = xs.length := by simp [zipIdxD]
theorem zipIdxD_get {xs : List D} {i : Nat} {x : D} (h : xs[i]? = some x) : (zipIdxD xs)[i]? = some (.raw [.int i, x]) := by
  unfold zipIdxD
  rw [List.getElem?_map, List.getElem?_zipIdx, h]; simp
theorem zipIdxD_pures (xs : List D) : D.pures (zipIdxD xs) = true := by
  unfold D.pures zipIdxD
  rw [List.all_eq_true]
  intro d hd
  obtain ⟨i, _, rfl⟩ := List.mem_map.mp hd
  rfl
theorem WalkD.pair {Hf' H' : Hp} {vs : List V} {xs : List D} {t : Bool} {J : It} {G : Hp → Prop} (hr : RFs K Hf' xs vs) (w : Walk J vs.length G (YPair (fun i => some (.int (i : Nat))) (fun i => vs[i]?))) (hs : ∀ H, Stay t Hf' H' H → G H) : WalkD K Hf' H' J (zipIdxD xs) t := by
  have hl := hr.length
  refine ⟨fun i H hi hg => w.goes i H (by rw [zipIdxD_len] at hi; omega) (hs H hg), fun H hg => by rw [zipIdxD_len, ← hl]; exact w.stops H (hs H hg), fun i H x H2 Hf hi hg sb hf y => ?_⟩
  rw [zipIdxD_len] at hi
  obtain ⟨T, x1, y1, rfl, h2, rfl, h4, h5⟩ := w.yields i H x H2 (by omega) (hs H hg) y
  cases h4
  obtain ⟨d, v, g1, g2, g3⟩ := hr.got hi
  have h5 : vs[i]? = some y1 := h5
  rw [h5] at g2; cases g2
  refine ⟨_, zipIdxD_get g1, Res.raw sb h2 ?_⟩
  simp only [RFs]
  exact ⟨_, _, rfl, by simp only [RF], _, _, rfl, RF.ext (.of hf) _ _ g3, rfl⟩
/-! ### what is walked -/
structure PstI (K : PySem.W.Frag) (Hf H : Hp) (F : List Addr) (ρ : Env) (σ : L2.St) (q : Bool) (xs : LvT) (ρ' : Env) (J : It) (H' : Hp) (Hf' : Hp) (F' : List Addr) : Prop where
  sta : Sta Hf' H' F'
  sl : RSl K Hf' H' ρ' σ F'
  step : Step Hf H F Hf' H' F'
  calm : q = true → Calm ρ ρ' F F' H H'
  walk : WalkD K Hf' H' J xs.d xs.t
  pure : D.pures xs.d = true
def tI (K : PySem.W.Frag) (Φ : Phi) (it : CI) : TI := fun σ H R => ∃ Hf F ρ, Sta Hf H F ∧ RSl K Hf H ρ σ F ∧ match denI Φ it ρ with
  | .ok xs ρ' => ∀ J H', (∃ Hf' F', PstI K Hf H F ρ σ it.quiet xs ρ' J H' Hf' F') → R J H'
  | _ => False
variable {Φ : Phi} {σ : L2.St} {H : Hp} {R : It → Hp → Prop}
def WishI (K : PySem.W.Frag) (Hf H : Hp) (F : List Addr) (ρ : Env) (σ : L2.St) (q : Bool) (R : It → Hp → Prop) : Rx LvT → Prop
  | .ok xs ρ' => ∀ J H', (∃ Hf' F', PstI K Hf H F ρ σ q xs ρ' J H' Hf' F') → R J H'
  | _ => False
theorem tI_iff {it : CI} : tI K Φ it σ H R ↔ ∃ Hf F ρ, Sta Hf H F ∧ RSl K Hf H ρ σ F ∧ WishI K Hf H F ρ σ it.quiet R (denI Φ it ρ) := by
  unfold tI WishI
  constructor
  · rintro ⟨Hf, F, ρ, s, sl, h⟩
    exact ⟨Hf, F, ρ, s, sl, by cases q : denI Φ it ρ <;> rw [q] at h <;> exact h⟩
  · rintro ⟨Hf, F, ρ, s, sl, h⟩
    exact ⟨Hf, F, ρ, s, sl, by cases q : denI Φ it ρ <;> rw [q] at h <;> exact h⟩
theorem wishI_bind {α : Type} {Hf : Hp} {F : List Addr} {ρ : Env} {q : Bool} {r : Rx α} {k : α → Env → Rx LvT} (h : WishI K Hf H F ρ σ q R (r.bind k)) : ∃ a e, r = .ok a e ∧ WishI K Hf H F ρ σ q R (k a e) :=
  Rx.bind_ok (P := WishI K Hf H F ρ σ q R) (fun _ _ h => h) (fun h => h) h
theorem stay_refl {t : Bool} {Hf H : Hp} (s : Sub Hf H) : Stay t Hf H H := ⟨fun _ _ _ e => e, fun _ => s⟩
/-- a list or a tuple, frozen: its items -/
theorem items_frz {Hf : Hp} {d : D} {v : V} {xs : List D} (h : RF K Hf d v) (e : itemsOf d = some xs) : ∃ a vs, v = .ref a ∧ RFs K Hf xs vs ∧ ((∀ H, Sub Hf H → SqL K H a vs) ∨ (∀ H, Sub Hf H → SqT K H a vs)) ∧ (∀ (x : List D), d = .tup x → ∀ H, Sub Hf H → SqT K H a vs) ∧ (∀ (m : Bool) (x : List D), d = .lst m x → ∀ H, Sub Hf H → SqL K H a vs) := by
  unfold itemsOf at e
  split at e
  · cases e
    simp only [RF] at h
    obtain ⟨a, vs, rfl, h1, h2⟩ := h
    exact ⟨a, vs, rfl, h2, .inr fun H s => h1.sq s, fun _ _ H s => h1.sq s, fun _ _ e => nomatch e⟩
  · cases e
    simp only [RF] at h
    obtain ⟨_, a, vs, rfl, h1, h2⟩ := h
    exact ⟨a, vs, rfl, h2, .inl fun H s => .inl ((Ext.of s).lst _ _ h1), (fun _ e => nomatch e), fun _ _ _ H s => .inl ((Ext.of s).lst _ _ h1)⟩
  · cases e
theorem frz_freeze {Hf H : Hp} {F f : List Addr} {d : D} {v : V} (s : Sta Hf H (F ++ f)) (h : RV K Hf H d v f) : RF K (withF Hf H f) d.frz v :=
  RV.freeze (.of withT_old) _ _ _ h fun a ha => withF_at (fun b hb => s.off b (List.mem_append_right _ hb)) ha
theorem im_iseq {e : CE} (h : tI K Φ (.seq e) σ H R) : iList K (tE K Φ e) σ H R ∨ iTup K (tE K Φ e) σ H R := by
  obtain ⟨Hf, F, ρ, s, sl, h⟩ := tI_iff.mp h
  simp only [denI] at h
  obtain ⟨x, ρ1, e1, h⟩ := wishI_bind h
  cases ex : itemsOf x.d with
  | none => rw [ex] at h; exact False.elim h
  | some xs =>
    rw [ex] at h
    simp only at h
    cases ht : x.t with
    | true =>
      simp only [ht, if_true] at h
      by_cases hp : D.pures xs = true
      · rw [if_pos hp] at h
        have fin : ∀ v H1 Hf1 F1 f1 (J : It), PstW K Hf H F ρ σ e.quiet x ρ1 v H1 Hf1 F1 f1 → WalkD K Hf1 H1 J xs true → R J H1 := fun v H1 Hf1 F1 f1 J w1 hw =>
          h J H1 ⟨Hf1, F1, w1.less, w1.sl, w1.st1, fun z => w1.calm (by simpa only [CI.quiet] using z), hw, hp⟩
        unfold itemsOf at ex
        split at ex
        · rename_i ys ed
          cases ex
          refine .inr (tE_run s sl e1 fun v H1 Hf1 F1 f1 w1 => ?_)
          have od := w1.own.opd
          rw [ed] at od
          obtain ⟨a, vs, rfl, h1, h2⟩ := od.tup
          have sq : ∀ H, Stay true Hf1 H1 H → SqT K H a vs := fun H g => h1.sq fun b o e => g.1 rfl b o (w1.sta.sub b o e)
          exact ⟨a, rfl, ⟨vs, sq _ (stay_refl w1.sta.sub)⟩, fin _ _ _ _ _ _ w1 (.tup h2 sq)⟩
        · rename_i m ys ed
          cases ex
          refine .inl (tE_run s sl e1 fun v H1 Hf1 F1 f1 w1 => ?_)
          have od := w1.own.opd
          rw [ed] at od
          obtain ⟨a, vs, rfl, h1, h2, h3, _⟩ := od.lst w1.sta.sub
          have sq : ∀ H, Stay true Hf1 H1 H → SqL K H a vs := fun H g => .inl ((Ext.of (g.1 rfl)).lst _ _ h1)
          exact ⟨a, rfl, ⟨vs, sq _ (stay_refl w1.sta.sub)⟩, fin _ _ _ _ _ _ w1 (.list (h3 hp) sq)⟩
        · cases ex
      · rw [if_neg hp] at h; exact False.elim h
    | false =>
      simp only [ht, Bool.false_eq_true, if_false] at h
      cases ez : itemsOf x.d.frz with
      | none => rw [ez] at h; exact False.elim h
      | some ys =>
        rw [ez] at h
        have fin : ∀ v H1 Hf1 F1 f1, PstW K Hf H F ρ σ e.quiet x ρ1 v H1 Hf1 F1 f1 → ∃ a vs, v = .ref a ∧ RFs K (withF Hf1 H1 f1) ys vs ∧ (∀ (x' : List D), x.d.frz = .tup x' → ∀ H, Sub (withF Hf1 H1 f1) H → SqT K H a vs) ∧ (∀ (m : Bool) (x' : List D), x.d.frz = .lst m x' → ∀ H, Sub (withF Hf1 H1 f1) H → SqL K H a vs) ∧
            Sub (withF Hf1 H1 f1) H1 ∧ ∀ J, WalkD K (withF Hf1 H1 f1) H1 J ys false → R J H1 := fun v H1 Hf1 F1 f1 w1 => by
          have ov : RV K Hf1 H1 x.d v f1 := by
            rcases w1.own with ⟨_, h⟩ | ⟨h, _⟩
            · exact h
            · rw [ht] at h; cases h
          have rf := frz_freeze w1.sta ov
          obtain ⟨a, vs, e2, e3, _, e4, e5⟩ := items_frz rf ez
          have s2 := freeze_sta w1.sta
          refine ⟨a, vs, e2, e3, e4, e5, s2.sub, fun J hw => h J H1 ⟨_, F1, s2, RSl.keep (.of withT_old) _ _ _ w1.sl fun _ _ => rfl, w1.step.trans freeze_step, fun z => w1.calm (by simpa only [CI.quiet] using z), hw, e3.pures⟩⟩
        unfold itemsOf at ez
        split at ez
        · rename_i zs ed
          refine .inr (tE_run s sl e1 fun v H1 Hf1 F1 f1 w1 => ?_)
          obtain ⟨a, vs, rfl, e3, e4, _, sb, k⟩ := fin v H1 Hf1 F1 f1 w1
          exact ⟨a, rfl, ⟨vs, e4 _ ed _ sb⟩, k _ (.tup e3 fun H g => e4 _ ed H (g.2 rfl))⟩
        · rename_i m zs ed
          refine .inl (tE_run s sl e1 fun v H1 Hf1 F1 f1 w1 => ?_)
          obtain ⟨a, vs, rfl, e3, _, e4, sb, k⟩ := fin v H1 Hf1 F1 f1 w1
          exact ⟨a, rfl, ⟨vs, e4 _ _ ed _ sb⟩, k _ (.list e3 fun H g => e4 _ _ ed H (g.2 rfl))⟩
        · cases ez
theorem im_ienum {e : CE} (h : tI K Φ (.enum e) σ H R) : iEnum K (tCons (tE K Φ e) tNil) σ H R ∨ iEnumT K (tCons (tE K Φ e) tNil) σ H R := by
  obtain ⟨Hf, F, ρ, s, sl, h⟩ := tI_iff.mp h
  simp only [denI] at h
  obtain ⟨x, ρ1, e1, h⟩ := wishI_bind h
  cases ht : x.t with
  | true => simp only [ht, if_true] at h; exact False.elim h
  | false =>
    simp only [ht, Bool.false_eq_true, if_false] at h
    cases ez : itemsOf x.d.frz with
    | none => rw [ez] at h; exact False.elim h
    | some ys =>
      rw [ez] at h
      have fin : ∀ v H1 Hf1 F1 f1, PstW K Hf H F ρ σ e.quiet x ρ1 v H1 Hf1 F1 f1 → ∃ a vs, v = .ref a ∧ RFs K (withF Hf1 H1 f1) ys vs ∧ (∀ (x' : List D), x.d.frz = .tup x' → ∀ H, Sub (withF Hf1 H1 f1) H → SqT K H a vs) ∧ (∀ (m : Bool) (x' : List D), x.d.frz = .lst m x' → ∀ H, Sub (withF Hf1 H1 f1) H → SqL K H a vs) ∧
          Sub (withF Hf1 H1 f1) H1 ∧ ∀ J, WalkD K (withF Hf1 H1 f1) H1 J (zipIdxD ys) false → R J H1 := fun v H1 Hf1 F1 f1 w1 => by
        have ov : RV K Hf1 H1 x.d v f1 := by
          rcases w1.own with ⟨_, h⟩ | ⟨h, _⟩
          · exact h
          · rw [ht] at h; cases h
        have rf := frz_freeze w1.sta ov
        obtain ⟨a, vs, e2, e3, _, e4, e5⟩ := items_frz rf ez
        have s2 := freeze_sta w1.sta
        refine ⟨a, vs, e2, e3, e4, e5, s2.sub, fun J hw => h J H1 ⟨_, F1, s2, RSl.keep (.of withT_old) _ _ _ w1.sl fun _ _ => rfl, w1.step.trans freeze_step, fun z => w1.calm (by simpa only [CI.quiet] using z), hw, zipIdxD_pures _⟩⟩
      unfold itemsOf at ez
      split at ez
      · rename_i zs ed
        refine .inr (tE_run s sl e1 fun v H1 Hf1 F1 f1 w1 => ?_)
        obtain ⟨a, vs, rfl, e3, e4, _, sb, k⟩ := fin v H1 Hf1 F1 f1 w1
        exact ⟨a, vs, rfl, e4 _ ed _ sb, k _ (.pair e3 walk_enumT fun H g => e4 _ ed H (g.2 rfl))⟩
      · rename_i m zs ed
        refine .inl (tE_run s sl e1 fun v H1 Hf1 F1 f1 w1 => ?_)
        obtain ⟨a, vs, rfl, e3, _, e4, sb, k⟩ := fin v H1 Hf1 F1 f1 w1
        exact ⟨a, vs, rfl, e4 _ _ ed _ sb, k _ (.pair e3 walk_enum fun H g => e4 _ _ ed H (g.2 rfl))⟩
      · cases ez
theorem im_rng1 {e : CE} (h : tI K Φ (.rng1 e) σ H R) : iRng1 (tCons (tE K Φ e) tNil) σ H R := by
  obtain ⟨Hf, F, ρ, s, sl, h⟩ := tI_iff.mp h
  simp only [denI] at h
  obtain ⟨x, ρ1, e1, h⟩ := wishI_bind h
  refine tE_run s sl e1 fun v H1 Hf1 F1 f1 w1 => ?_
  split at h
  · rename_i j ej
    split at h
    · rename_i hj
      refine ⟨j, by rw [w1.intv ej], hj.1, hj.2, h _ _ ⟨Hf1, F1, w1.less, w1.sl, w1.st1, fun z => w1.calm (by simpa only [CI.quiet] using z), .range, rangeD_pures _ _⟩⟩
    · exact False.elim h
  · exact False.elim h
theorem im_rng2 {a b : CE} (h : tI K Φ (.rng2 a b) σ H R) : iRng2 (tCons (tE K Φ a) (tCons (tE K Φ b) tNil)) σ H R := by
  obtain ⟨Hf, F, ρ, s, sl, h⟩ := tI_iff.mp h
  simp only [denI] at h
  obtain ⟨x, ρ1, e1, h⟩ := wishI_bind h
  obtain ⟨y, ρ2, e2, h⟩ := wishI_bind h
  refine tE_run s sl e1 fun v H1 Hf1 F1 f1 w1 => tE_run w1.less w1.sl e2 fun u H2 Hf2 F2 f2 w2 => ?_
  split at h
  · rename_i i j ei ej
    split at h
    · rename_i hj
      refine ⟨i, j, by rw [w1.intv ei, w2.intv ej], hj, h _ _ ⟨Hf2, F2, w2.less, w2.sl, w1.st1.trans w2.st1, fun z => ?_, .range, rangeD_pures _ _⟩⟩
      simp only [CI.quiet, Bool.and_eq_true] at z
      exact (w1.calm z.1).trans (w2.calm z.2)
    · exact False.elim h
  · exact False.elim h
end
end Mini
set_option linter.all false
set_option maxRecDepth 10000
/-! M4k: a dict's keys walked; the dict is locked from then on. -/
namespace Mini
open PySem PySem.Spec L2
section
variable {K : PySem.W.Frag}
theorem Res.rawOld {Hf H : Hp} {ds : List Mini.D} {vs : List V} {p : Addr} (s : Sub Hf H) (hp : H p = some (.tup vs)) (h : RFs K Hf ds vs) : Res K Hf H (.raw ds) (.ref p) H := by
  have ex : ∀ a o, Hf a = some o → upd Hf p (.tup vs) a = some o := fun a o e => by
    by_cases ha : a = p
    · subst ha; rw [upd_same]; have := s _ _ e; rw [hp] at this; exact this
    · rw [upd_ne ha]; exact e
  refine ⟨upd Hf p (.tup vs), [], fun _ _ e => e, ex, fun a o e => ?_, fun a o e => ?_, .nil, fun a ha => (nomatch ha), ?_⟩
  · by_cases ha : a = p
    · subst ha; rw [upd_same] at e; rw [hp]; exact e
    · rw [upd_ne ha] at e; exact s _ _ e
  · by_cases ha : a = p
    · subst ha; exact .inr (.inr ⟨vs, hp⟩)
    · rw [upd_ne ha] at e; exact .inl e
  · exact RV.of_RF (by simp only [RF]; exact ⟨p, vs, rfl, upd_same, RFs.ext (.of ex) _ _ h⟩)
theorem RFs.keys {Hf : Hp} : ∀ k : List Key, RFs K Hf (k.map keyD) (k.map kV)
  | [] => by simp [RFs]
  | k :: ks => by
    simp only [List.map_cons, RFs]
    refine ⟨_, _, rfl, ?_, RFs.keys ks⟩
    cases k <;> simp [keyD, kV, RF]
theorem WalkD.keysT {Hf' H' : Hp} {a : Addr} {od : Obj} {kvs : List (List Key × V)} (h : Hf' a = some (.frz od (.dT kvs))) : WalkD K Hf' H' (Itkt a od kvs) ((kvs.map (·.1)).map fun k => .raw (k.map keyD)) false := by
  have hl : ((kvs.map (·.1)).map fun k => Mini.D.raw (k.map keyD)).length = kvs.length := by simp
  refine ⟨fun i H hi g => ⟨g.2 rfl _ _ h, by rw [hl] at hi; exact hi⟩, fun H g => ⟨g.2 rfl _ _ h, by rw [hl]; exact Nat.le_refl _⟩, fun i H x H2 Hf hi g sb hf y => ?_⟩
  obtain ⟨rfl, k, v, q, e1, rfl, e2⟩ := y
  refine ⟨.raw (k.map keyD), ?_, Res.rawOld sb e2 (RFs.keys k)⟩
  rw [List.getElem?_map, List.getElem?_map, e1]; rfl
end
section
variable {X : Cx} {tg e : Expr}
def iLock (t : TI) : TI := fun σ H R => ∃ d u, H d = some u ∧ Mut (some u) ∧ ∀ od, t σ (upd H d (.frz od u)) R
theorem pi_lockK {t : TI} (h : PI X tg e t) : PI X tg e (iLock t) := by
  refine ⟨fun pins s σ H R I hw => ?_⟩
  obtain ⟨d, u, hd, mu, hw⟩ := hw
  obtain ⟨od, I1⟩ := I.lock hd mu
  exact h.run pins s σ _ R I1 (hw od)
end
section
variable {K : PySem.W.Frag} {Φ : Phi} {σ : L2.St} {H : Hp} {R : It → Hp → Prop}
theorem im_ikeys {i : Nat} (h : tI K Φ (.keys (.frz i)) σ H R) : iLock (iKeys (tVar i)) σ H R := by
  obtain ⟨Hf, F, ρ, s, sl, h⟩ := tI_iff.mp h
  simp only [denI] at h
  split at h
  · rename_i ks vs hg
    split at h
    · rename_i hp
      obtain ⟨v, g0, rest, h1, h2, h3, h4⟩ := RSl.take sl hg
      obtain ⟨a, kvs, g, rfl, rfl, ha, ek, rv⟩ := owned_dT h3
      obtain ⟨rfl, rf⟩ := (RVs.of_pures hp).mp rv
      have s1 := s.perm h2
      have nd := s1.nd
      simp only [List.cons_append, List.nil_append, List.nodup_cons] at nd
      have hfa : Hf a = none := s1.off a (by simp)
      refine ⟨a, .dT kvs, ha, trivial, fun od => ⟨_, h1, a, od, rfl, .inr ⟨kvs, upd_same, ?_⟩⟩⟩
      have ex : ∀ b o, Hf b = some o → upd Hf a (.frz od (.dT kvs)) b = some o := fun b o e => by
        rw [upd_ne (fun z => by rw [z, hfa] at e; cases e)]; exact e
      have ne : ∀ b ∈ rest, b ≠ a := fun b hb z => nd.1 (z ▸ hb)
      have sl2 := RSl.keep (H' := upd H a (.frz od (.dT kvs))) (.of ex) _ _ _ h4 fun b hb => upd_ne (ne b hb)
      have rfd : RF K (upd Hf a (.frz od (.dT kvs))) (.dT false ks vs) (.ref a) := by
        simp only [RF]
        exact ⟨trivial, a, kvs, rfl, .inr ⟨od, upd_same⟩, ek, RFs.ext (.of ex) _ _ rf⟩
      obtain ⟨F', p', sl3⟩ := RSl.give sl2 (set_none_at (getS_lt hg)) h1 (RV.of_RF rfd)
      rw [set_set] at sl3
      simp only [List.nil_append] at p'
      have inr : ∀ b ∈ F', b ∈ rest := fun b hb => p'.mem_iff.mp hb
      subst ek
      refine h _ _ ⟨upd Hf a (.frz od (.dT kvs)), F', ⟨p'.nodup_iff.mpr nd.2, fun b hb => ?_, fun b o e => ?_⟩, sl3, ⟨ex, fun b o e hb => ?_, fun b hb => ?_, fun b o e => ?_⟩, fun z => ?_, WalkD.keysT upd_same, ?_⟩
      · rw [upd_ne (ne b (inr b hb))]; exact s1.off b (by simp [inr b hb])
      · by_cases hb : b = a
        · subst hb; rw [upd_same] at e ⊢; exact e
        · rw [upd_ne hb] at e ⊢; exact s1.sub b o e
      · rw [upd_ne (fun z => hb (h2.mem_iff.mpr (by simp [z])))]; exact e
      · exact .inl (h2.mem_iff.mpr (by simp [inr b hb]))
      · by_cases hb : b = a
        · exact .inr (.inl (h2.mem_iff.mpr (by simp [hb])))
        · rw [upd_ne hb] at e; exact .inl e
      · simp [CI.quiet, CE.quiet] at z
      · unfold D.pures
        rw [List.all_eq_true]
        intro d hd
        obtain ⟨k, _, rfl⟩ := List.mem_map.mp hd
        rfl
    · exact False.elim h
  · exact False.elim h
end
section
variable {K : PySem.W.Frag}
theorem WalkD.keysK {Hf' H' : Hp} {a : Addr} {od : Obj} {kvs : List (Key × V)} (h : Hf' a = some (.frz od (.dK kvs))) : WalkD K Hf' H' (Itk a od kvs) ((kvs.map (·.1)).map keyD) false := by
  have hl : ((kvs.map (·.1)).map keyD).length = kvs.length := by simp
  refine ⟨fun i H hi g => ⟨g.2 rfl _ _ h, by rw [hl] at hi; exact hi⟩, fun H g => ⟨g.2 rfl _ _ h, by rw [hl]; exact Nat.le_refl _⟩, fun i H x H2 Hf hi g sb hf y => ?_⟩
  obtain ⟨rfl, k, v, e1, rfl⟩ := y
  refine ⟨keyD k, ?_, Res.same sb ?_⟩
  · rw [List.getElem?_map, List.getElem?_map, e1]; rfl
  · cases k <;> simp [keyD, kV, RF]
end
section
variable {X : Cx} {tg e : Expr}
/-- the dict is locked behind its reading, for good -/
def iLockA (td : TE) : TI := fun σ H R => td σ H fun x H1 => ∃ d kvs, x = .ref d ∧ H1 d = some (.dK kvs) ∧ ∀ od, R (Itk d od kvs) (upd H1 d (.frz od (.dK kvs)))
theorem pi_lockA {td : TE} (he : PE X e td) : PI X tg e (iLockA td) := by
  refine ⟨fun pins s σ H R I h => ?_⟩
  refine thn (he.run pins s σ H _ I h) fun u s1 ⟨x, H1, I1, rx, d, kvs, ex, hd, q⟩ => ?_
  subst ex
  obtain rfl : u = Value.ref d := rx
  obtain ⟨od, I2⟩ := I1.lock hd trivial
  obtain ⟨hs, hgd, hx, es, ep, vs, hdt, hsz, kv, hm⟩ := I2.frzK upd_same
  refine iter_keys hs hgd hx hdt (pi_one (tk := s1.toks) I2 _ (turn_keys _ hdt) ⟨_, Heap.get?_push_size _ rfl, rfl, ?_⟩ (q od))
  rw [hsz] <;> rfl
end
section
variable {K : PySem.W.Frag} {Φ : Phi} {σ : L2.St} {H : Hp} {R : It → Hp → Prop}
theorem im_ikeysP {p : CP} (h : tI K Φ (.keysP p) σ H R) : iLockA (tP K Φ p) σ H R := by
  obtain ⟨Hf, F, ρ, s, sl, h⟩ := tI_iff.mp h
  simp only [denI] at h
  obtain ⟨ks, ρ1, e1, h⟩ := wishI_bind h
  refine tP_run s sl e1 fun v H1 Hf1 F1 w1 => ?_
  obtain ⟨d, w, c, fd, a1, a2, a3, a4, a5, a6⟩ := w1.at_
  rw [a1, Option.bind_some] at h
  cases hu : updAt fLockK ks d with
  | none => rw [hu] at h; exact False.elim h
  | some r =>
  obtain ⟨xs, d'⟩ := r
  rw [hu] at h
  simp only at h
  obtain ⟨w0, g, rest, t1, t2, t3, t4⟩ := w1.sl.take a1
  rw [a2] at t1; cases t1
  obtain ⟨c2, c', gs, rest2, p1, p2, p3, p4⟩ := tree_focus t3 a3 hu
  unfold fLockK at p1
  split at p1
  case h_2 => cases p1
  rename_i kk vs
  split at p1
  case isFalse => cases p1
  rename_i hp
  cases p1
  obtain ⟨a, kvs, g0, rfl, rfl, ha, ek, rv⟩ := owned_dK p2
  obtain ⟨rfl, rf⟩ := (RVs.of_pures hp).mp rv
  have pG : F1.Perm ([a] ++ (rest2 ++ rest)) := t2.trans (by rw [← List.append_assoc]; exact p3.append_right rest)
  have s1 := w1.sta.perm pG
  have nd := s1.nd
  simp only [List.cons_append, List.nil_append, List.nodup_cons] at nd
  have hfa : Hf1 a = none := s1.off a (by simp)
  refine ⟨a, kvs, rfl, ha, fun od => ?_⟩
  have ex : ∀ b o, Hf1 b = some o → upd Hf1 a (.frz od (.dK kvs)) b = some o := fun b o e => by
    rw [upd_ne (fun z => by rw [z, hfa] at e; cases e)]; exact e
  have ne : ∀ b ∈ rest2 ++ rest, b ≠ a := fun b hb z => nd.1 (z ▸ hb)
  have sl2 := RSl.keep (H' := upd H1 a (.frz od (.dK kvs))) (.of ex) _ _ _ t4 fun b hb => upd_ne (ne b (List.mem_append_right _ hb))
  have rfd : RF K (upd Hf1 a (.frz od (.dK kvs))) (.dK false kk vs) (.ref a) := by
    simp only [RF]
    exact ⟨trivial, a, kvs, rfl, .inr ⟨od, upd_same⟩, ek, RFs.ext (.of ex) _ _ rf⟩
  obtain ⟨g', r1, r2⟩ := p4 _ (upd H1 a (.frz od (.dK kvs))) [] (.of ex) (fun b hb => upd_ne (ne b (List.mem_append_left _ hb))) (RV.of_RF rfd)
  obtain ⟨F', q1, q2⟩ := RSl.give sl2 (set_none_at (getS_lt a1)) a2 r2
  rw [set_set] at q2
  have q3 : F'.Perm (rest2 ++ rest) := q1.trans (by simpa using r1.append_right rest)
  have inr : ∀ b ∈ F', b ∈ rest2 ++ rest := fun b hb => q3.mem_iff.mp hb
  subst ek
  refine h _ _ ⟨upd Hf1 a (.frz od (.dK kvs)), F', ⟨q3.nodup_iff.mpr nd.2, fun b hb => ?_, fun b o e => ?_⟩, q2, w1.step.trans ⟨ex, fun b o e hb => ?_, fun b hb => ?_, fun b o e => ?_⟩, fun z => ?_, WalkD.keysK upd_same, ?_⟩
  · rw [upd_ne (ne b (inr b hb))]
    have hbI : b ∈ [a] ++ (rest2 ++ rest) := List.mem_append_right _ (inr b hb)
    exact s1.off b hbI
  · by_cases hb : b = a
    · subst hb; rw [upd_same] at e ⊢; exact e
    · rw [upd_ne hb] at e ⊢; exact s1.sub b o e
  · rw [upd_ne (fun z => hb (pG.mem_iff.mpr (by simp [z])))]; exact e
  · exact .inl (pG.mem_iff.mpr (List.mem_append_right _ (inr b hb)))
  · by_cases hb : b = a
    · exact .inr (.inl (pG.mem_iff.mpr (by simp [hb])))
    · rw [upd_ne hb] at e; exact .inl e
  · simp [CI.quiet] at z
  · unfold D.pures
    rw [List.all_eq_true]
    intro d hd
    obtain ⟨k, _, rfl⟩ := List.mem_map.mp hd
    cases k <;> rfl
end
end Mini
set_option linter.all false
set_option maxRecDepth 10000
/-! M4h: targets; list comprehensions. -/
namespace Mini
open PySem PySem.Spec L2
section
variable {K : PySem.W.Frag} {Φ : Phi}
theorem getS_set_ne {ρ : Env} {i j : Nat} {o : Option D} (h : i ≠ j) : getS (ρ.set i o) j = getS ρ j := by unfold getS; rw [List.getElem?_set_ne h]
theorem getS_set_self {ρ : Env} {i : Nat} {o : Option D} (h : i < ρ.length) : getS (ρ.set i o) i = o := by unfold getS; rw [List.getElem?_set_self h]; cases o <;> rfl
/-- slots matter but where something is known -/
theorem RSl.swap {Hf H : Hp} : ∀ {ρ : Env} {σ σ' : L2.St} {F : List Addr}, RSl K Hf H ρ σ F → σ'.length = σ.length → (∀ (j : Nat) (d : D), ρ[j]? = some (some d) → σ'[j]? = σ[j]?) → RSl K Hf H ρ σ' F
  | [], σ, σ', F, h, hl, k => by
    simp only [RSl] at h ⊢
    obtain ⟨rfl, e⟩ := h
    exact ⟨List.length_eq_zero_iff.mp hl, e⟩
  | none :: ρ, σ, σ', F, h, hl, k => by
    simp only [RSl] at h ⊢
    obtain ⟨s, r, rfl, h⟩ := h
    cases σ' with
    | nil => simp at hl
    | cons s' r' => exact ⟨s', r', rfl, RSl.swap h (by simpa using hl) fun j d e => by simpa using k (j + 1) d (by simpa using e)⟩
  | some d0 :: ρ, σ, σ', F, h, hl, k => by
    simp only [RSl] at h ⊢
    obtain ⟨v, r, f1, f2, rfl, rfl, h1, h2⟩ := h
    cases σ' with
    | nil => simp at hl
    | cons s' r' =>
      have e0 := k 0 d0 rfl
      simp at e0
      subst e0
      exact ⟨v, r', f1, f2, rfl, rfl, h1, RSl.swap h2 (by simpa using hl) fun j d e => by simpa using k (j + 1) d (by simpa using e)⟩
def okO : Option D → Bool
  | some d => d.pure
  | none => true
/-- a slot that owns nothing: set, or wiped -/
theorem RSl.fillp {Hf H : Hp} : ∀ {ρ : Env} {σ : L2.St} {F : List Addr} {i : Nat} {d : D} {v : V}, RSl K Hf H ρ σ F → okO (getS ρ i) = true → RF K Hf d v → i < ρ.length → RSl K Hf H (ρ.set i (some d)) (σ.set i (some v)) F
  | [], σ, F, i, d, v, h, ok, r, hi => by simp at hi
  | none :: ρ, σ, F, i, d, v, h, ok, hr, hi => by
    simp only [RSl] at h
    obtain ⟨s, r, rfl, h⟩ := h
    cases i with
    | zero => simp only [List.set_cons_zero, RSl]; exact ⟨v, r, [], F, rfl, rfl, RV.of_RF hr, h⟩
    | succ i => simp only [List.set_cons_succ, RSl]; exact ⟨s, _, rfl, RSl.fillp h (by simpa [getS] using ok) hr (by simpa using hi)⟩
  | some d0 :: ρ, σ, F, i, d, v, h, ok, hr, hi => by
    simp only [RSl] at h
    obtain ⟨v0, r, f1, f2, rfl, rfl, h1, h2⟩ := h
    cases i with
    | zero =>
      simp [getS, okO] at ok
      obtain ⟨rfl, _⟩ := (RV.of_pure ok).mp h1
      simp only [List.set_cons_zero, RSl]
      exact ⟨v, r, [], f2, rfl, rfl, RV.of_RF hr, h2⟩
    | succ i => simp only [List.set_cons_succ, RSl]; exact ⟨v0, _, f1, f2, rfl, rfl, h1, RSl.fillp h2 (by simpa [getS] using ok) hr (by simpa using hi)⟩
theorem RSl.wipep {Hf H : Hp} : ∀ {ρ : Env} {σ : L2.St} {F : List Addr} {i : Nat}, RSl K Hf H ρ σ F → okO (getS ρ i) = true → RSl K Hf H (ρ.set i none) σ F
  | [], σ, F, i, h, ok => by simpa using h
  | none :: ρ, σ, F, i, h, ok => by
    simp only [RSl] at h
    obtain ⟨s, r, rfl, h⟩ := h
    cases i with
    | zero => simp only [List.set_cons_zero, RSl]; exact ⟨s, r, rfl, h⟩
    | succ i => simp only [List.set_cons_succ, RSl]; exact ⟨s, r, rfl, RSl.wipep h (by simpa [getS] using ok)⟩
  | some d0 :: ρ, σ, F, i, h, ok => by
    simp only [RSl] at h
    obtain ⟨v0, r, f1, f2, rfl, rfl, h1, h2⟩ := h
    cases i with
    | zero =>
      simp [getS, okO] at ok
      obtain ⟨rfl, _⟩ := (RV.of_pure ok).mp h1
      simp only [List.set_cons_zero, RSl]
      exact ⟨some v0, r, rfl, h2⟩
    | succ i => simp only [List.set_cons_succ, RSl]; exact ⟨v0, r, f1, f2, rfl, rfl, h1, RSl.wipep h2 (by simpa [getS] using ok)⟩
theorem okS_iff {is : List Nat} {ρ : Env} : okS is ρ = true ↔ ∀ i ∈ is, okO (getS ρ i) = true := by
  unfold okS
  rw [List.all_eq_true]
  constructor <;> intro h i hi <;> have := h i hi <;> (unfold okO at *; cases e : getS ρ i <;> rw [e] at this <;> simpa using this)
theorem okO_set {ρ : Env} {i j : Nat} {o : Option D} (h : okO (getS ρ j) = true) (ho : okO o = true) : okO (getS (ρ.set i o) j) = true := by
  by_cases e : i = j
  · subst e
    by_cases hi : i < ρ.length
    · rw [getS_set_self hi]; exact ho
    · rw [List.set_eq_of_length_le (by omega)]; exact h
  · rw [getS_set_ne e]; exact h
theorem RSl.wipes {Hf H : Hp} {σ : L2.St} {F : List Addr} : ∀ {is : List Nat} {ρ : Env}, RSl K Hf H ρ σ F → okS is ρ = true → RSl K Hf H (wipeS is ρ) σ F
  | [], ρ, h, _ => h
  | i :: is, ρ, h, ok => by
    have o := okS_iff.mp ok
    show RSl K Hf H (wipeS is (ρ.set i none)) σ F
    exact RSl.wipes (h.wipep (o i List.mem_cons_self)) (okS_iff.mpr fun j hj => okO_set (o j (List.mem_cons_of_mem _ hj)) rfl)
theorem wipeS_len : ∀ (is : List Nat) (ρ : Env), (wipeS is ρ).length = ρ.length
  | [], ρ => rfl
  | i :: is, ρ => by show (wipeS is (ρ.set i none)).length = _; rw [wipeS_len is]; simp
theorem wipeS_get : ∀ (is : List Nat) (ρ : Env) (j : Nat), (wipeS is ρ)[j]? = if j ∈ is ∧ j < ρ.length then some none else ρ[j]?
  | [], ρ, j => by simp [wipeS]
  | i :: is, ρ, j => by
    show (wipeS is (ρ.set i none))[j]? = _
    rw [wipeS_get is]
    by_cases hj : j < ρ.length
    · by_cases e : i = j
      · subst e; simp [hj]
      · have e' : ¬ j = i := fun z => e z.symm
        rw [List.getElem?_set_ne e]
        simp only [List.length_set, List.mem_cons, e', false_or]
    · have : ρ[j]? = none := List.getElem?_eq_none (by omega)
      simp [hj, this]
theorem wipe_get : ∀ (is : List Nat) (σ : L2.St) (j : Nat), (L2.wipe σ is)[j]? = if j ∈ is ∧ j < σ.length then some none else σ[j]?
  | [], σ, j => by simp [L2.wipe]
  | i :: is, σ, j => by
    unfold L2.wipe
    by_cases hj : j < σ.length
    · have hl : j < (L2.wipe σ is).length := by rw [L2.wipe_length]; exact hj
      by_cases e : i = j
      · subst e; rw [List.getElem?_set_self hl]; simp [hj]
      · have e' : ¬ j = i := fun z => e z.symm
        rw [List.getElem?_set_ne e, wipe_get is]; simp [hj, e']
    · rw [List.getElem?_eq_none (by rw [List.length_set, L2.wipe_length]; omega), List.getElem?_eq_none (by omega)]; simp [hj]
theorem wipe_eq {is : List Nat} {σ σ' : L2.St} (hl : σ'.length = σ.length) (h : ∀ j, j ∉ is → σ'[j]? = σ[j]?) : L2.wipe σ' is = L2.wipe σ is := by
  refine List.ext_getElem? fun j => ?_
  rw [wipe_get, wipe_get, hl]
  split
  · rfl
  · rename_i hn
    by_cases hj : j ∈ is
    · have : ¬ j < σ.length := fun z => hn ⟨hj, z⟩
      rw [List.getElem?_eq_none (by omega), List.getElem?_eq_none (by omega)]
    · exact h j hj
/-! ### targets -/
def gNames : List Nat → TGs
  | [] => gNil
  | i :: is => gCons (gName i) (gNames is)
def gT (K : PySem.W.Frag) : List Nat → TG
  | [i] => gName i
  | is => gTup K is.length (gNames is)
/-- the slots behind a target, which slots may differ -/
structure Bound (K : PySem.W.Frag) (Hf H : Hp) (is : List Nat) (ρ1 : Env) (σ σ1 : L2.St) (F : List Addr) : Prop where
  sl : RSl K Hf H ρ1 σ1 F
  len : σ1.length = σ.length
  old : ∀ j, j ∉ is → σ1[j]? = σ[j]?
theorem go_run {Hf H : Hp} : ∀ {is : List Nat} {xs : List D} {vs : List V} {ρ ρ1 : Env} {σ : L2.St} {F : List Addr} {P : L2.St → Hp → Prop}, bindT.go is xs ρ = some ρ1 → is.length = xs.length → RFs K Hf xs vs → RSl K Hf H ρ σ F → okS is ρ = true →
    (∀ σ1, Bound K Hf H is ρ1 σ σ1 F → P σ1 H) → gNames is vs σ H P
  | [], [], vs, ρ, ρ1, σ, F, P, h, _, hr, sl, ok, q => by
    simp only [RFs] at hr
    simp only [bindT.go, Option.some.injEq] at h
    subst h hr
    exact ⟨rfl, q σ ⟨sl, rfl, fun _ _ => rfl⟩⟩
  | [], _ :: _, vs, ρ, ρ1, σ, F, P, h, hl, hr, sl, ok, q => by simp at hl
  | _ :: _, [], vs, ρ, ρ1, σ, F, P, h, hl, hr, sl, ok, q => by simp at hl
  | i :: is, x :: xs, vs, ρ, ρ1, σ, F, P, h, hl, hr, sl, ok, q => by
    simp only [RFs] at hr
    obtain ⟨v, r, rfl, h1, h2⟩ := hr
    simp only [bindT.go] at h
    split at h
    · rename_i hi
      have o := okS_iff.mp ok
      refine ⟨v, r, rfl, go_run h (by simpa using hl) h2 (sl.fillp (o i List.mem_cons_self) h1 hi) (okS_iff.mpr fun j hj => okO_set (o j (List.mem_cons_of_mem _ hj)) h1.pure) fun σ1 b => q σ1 ⟨b.sl, by rw [b.len]; simp, fun j hj => ?_⟩⟩
      simp only [List.mem_cons, not_or] at hj
      rw [b.old j hj.2, List.getElem?_set_ne (fun e => hj.1 e.symm)]
    · cases h
theorem bind_run {Hf H : Hp} {is : List Nat} {x : D} {v : V} {ρ ρ1 : Env} {σ : L2.St} {F : List Addr} {P : L2.St → Hp → Prop} (h : bindT is x ρ = some ρ1) (hr : RF K Hf x v) (sb : Sub Hf H) (sl : RSl K Hf H ρ σ F) (ok : okS is ρ = true)
    (q : ∀ σ1, Bound K Hf H is ρ1 σ σ1 F → P σ1 H) : gT K is v σ H P := by
  have tup : ∀ xs : List D, tupItems x = some xs → is.length = xs.length → bindT.go is xs ρ = some ρ1 → gTup K is.length (gNames is) v σ H P := by
    intro xs hx hl hg
    obtain ⟨a, vs, rfl, h1, h2⟩ : ∃ a vs, v = .ref a ∧ SqT K H a vs ∧ RFs K Hf xs vs := by
      cases x <;> simp only [tupItems] at hx <;> try (cases hx; done)
      · cases hx
        simp only [RF] at hr
        obtain ⟨a, vs, e1, e2, e3⟩ := hr
        exact ⟨a, vs, e1, e2.sq sb, e3⟩
      · cases hx
        simp only [RF] at hr
        obtain ⟨a, vs, e1, e2, e3⟩ := hr
        exact ⟨a, vs, e1, .inl (.inl (sb _ _ e2)), e3⟩
    exact ⟨a, vs, rfl, h1, by rw [h2.length, hl], go_run hg hl h2 sl ok q⟩
  match is, h, ok, q, tup with
  | [i], h, ok, q, _ =>
    simp only [bindT] at h
    split at h
    · rename_i hi
      cases h
      have o := okS_iff.mp ok
      exact q _ ⟨sl.fillp (o i List.mem_cons_self) hr hi, by simp, fun j hj => by rw [List.getElem?_set_ne (fun e => hj (by simp [e]))]⟩
    · cases h
  | [], h, ok, q, tup =>
    simp only [bindT] at h
    split at h
    · rename_i xs ex
      split at h
      · rename_i hl; exact tup _ ex hl h
      · cases h
    · cases h
  | i :: j :: is, h, ok, q, tup =>
    simp only [bindT] at h
    split at h
    · rename_i xs ex
      split at h
      · rename_i hl; exact tup _ ex hl h
      · cases h
    · cases h
theorem go_len : ∀ {is : List Nat} {xs : List D} {ρ ρ1 : Env}, bindT.go is xs ρ = some ρ1 → ρ1.length = ρ.length ∧ ∀ j, j ∉ is → getS ρ1 j = getS ρ j
  | [], xs, ρ, ρ1, h => by simp only [bindT.go, Option.some.injEq] at h; subst h; exact ⟨rfl, fun _ _ => rfl⟩
  | i :: is, [], ρ, ρ1, h => by simp [bindT.go] at h
  | i :: is, x :: xs, ρ, ρ1, h => by
    simp only [bindT.go] at h
    split at h
    · obtain ⟨h1, h2⟩ := go_len h
      refine ⟨by rw [h1]; simp, fun j hj => ?_⟩
      simp only [List.mem_cons, not_or] at hj
      rw [h2 j hj.2, getS_set_ne fun e => hj.1 e.symm]
    · cases h
theorem bindT_len {is : List Nat} {x : D} {ρ ρ1 : Env} (h : bindT is x ρ = some ρ1) : ρ1.length = ρ.length ∧ ∀ j, j ∉ is → getS ρ1 j = getS ρ j := by
  unfold bindT at h
  split at h
  · split at h
    · cases h
      exact ⟨by simp, fun j hj => getS_set_ne fun e => hj (by simp [e])⟩
    · cases h
  · split at h
    · split at h
      · exact go_len h
      · cases h
    · cases h
theorem wipeS_bind {is : List Nat} {x : D} {ρ ρ1 : Env} (h : bindT is x (wipeS is ρ) = some ρ1) : wipeS is ρ1 = wipeS is ρ := by
  obtain ⟨h1, h2⟩ := bindT_len h
  rw [wipeS_len] at h1
  refine List.ext_getElem? fun j => ?_
  rw [wipeS_get, wipeS_get, h1]
  split
  · rfl
  · rename_i hn
    by_cases hj : j ∈ is
    · have : ¬ j < ρ.length := fun z => hn ⟨hj, z⟩
      rw [List.getElem?_eq_none (by omega), List.getElem?_eq_none (by omega)]
    · have := h2 j hj
      unfold getS at this
      rw [wipeS_get, if_neg (fun z => hj z.1)] at this
      by_cases hl : j < ρ.length
      · rw [List.getElem?_eq_getElem (by omega), List.getElem?_eq_getElem hl] at this ⊢
        simp only [Option.join_some] at this
        rw [this]
      · rw [List.getElem?_eq_none (by omega), List.getElem?_eq_none (by omega)]
theorem backS_get : ∀ (is : List Nat) (old ρ : Env) (j : Nat), (backS is old ρ)[j]? = if j ∈ is ∧ j < ρ.length then some (keepP (getS old j)) else ρ[j]?
  | [], old, ρ, j => by simp [backS]
  | i :: is, old, ρ, j => by
    show (backS is old (ρ.set i (keepP (getS old i))))[j]? = _
    rw [backS_get is]
    by_cases hj : j < ρ.length
    · by_cases e : i = j
      · subst e; simp [hj]
      · have e' : ¬ j = i := fun z => e z.symm
        rw [List.getElem?_set_ne e]
        simp only [List.length_set, List.mem_cons, e', false_or]
    · have : ρ[j]? = none := List.getElem?_eq_none (by omega)
      simp [hj, this]
theorem backS_wipe {is : List Nat} {ρ : Env} (ok : okS is ρ = true) : backS is ρ (wipeS is ρ) = ρ := by
  have o := okS_iff.mp ok
  refine List.ext_getElem? fun j => ?_
  rw [backS_get, wipeS_get, wipeS_len]
  split
  · rename_i h
    have ho := o j h.1
    rw [List.getElem?_eq_getElem h.2]
    have e : getS ρ j = ρ[j] := by unfold getS; rw [List.getElem?_eq_getElem h.2]; rfl
    rw [e] at ho ⊢
    cases q : ρ[j] with
    | none => rfl
    | some d => rw [q] at ho; simp [okO] at ho; simp [keepP, ho]
  · rfl
theorem backS_len (is : List Nat) (old : Env) : ∀ ρ : Env, (backS is old ρ).length = ρ.length := by
  induction is with
  | nil => intro ρ; rfl
  | cons i is ih => intro ρ; show (backS is old (ρ.set i (keepP (getS old i)))).length = _; rw [ih]; simp
/-- the slots are as they were -/
theorem RSl.back {Hf H : Hp} {σ : L2.St} {F : List Addr} {old : Env} : ∀ {is : List Nat} {ρ : Env}, RSl K Hf H ρ σ F → okS is ρ = true → (∀ i ∈ is, ∀ d, getS old i = some d → d.pure = true → ∃ v, σ[i]? = some (some v) ∧ RF K Hf d v) → RSl K Hf H (backS is old ρ) σ F
  | [], ρ, h, _, _ => h
  | i :: is, ρ, h, ok, k => by
    have o := okS_iff.mp ok
    show RSl K Hf H (backS is old (ρ.set i (keepP (getS old i)))) σ F
    have hk : okO (keepP (getS old i)) = true := by
      unfold keepP
      cases e : getS old i with
      | none => rfl
      | some d =>
        simp only
        split
        · rename_i hp; exact hp
        · rfl
    refine RSl.back ?_ (okS_iff.mpr fun j hj => okO_set (o j (List.mem_cons_of_mem _ hj)) hk) fun j hj => k j (List.mem_cons_of_mem _ hj)
    unfold keepP
    cases e : getS old i with
    | none => exact h.wipep (o i List.mem_cons_self)
    | some d =>
      simp only
      split
      · rename_i hp
        obtain ⟨v, h1, h2⟩ := k i List.mem_cons_self d e hp
        have es : σ.set i (some v) = σ := by
          refine List.ext_getElem? fun j => ?_
          by_cases hj : i = j
          · subst hj; rw [List.getElem?_set_self (List.getElem?_eq_some_iff.mp h1).1, h1]
          · rw [List.getElem?_set_ne hj]
        have hi : i < ρ.length := by rw [← h.length]; exact (List.getElem?_eq_some_iff.mp h1).1
        have := h.fillp (o i List.mem_cons_self) h2 hi
        rwa [es] at this
      · exact h.wipep (o i List.mem_cons_self)
end
end Mini
set_option linter.all false
set_option maxRecDepth 10000
/-! M4i: list comprehensions. -/
namespace Mini
open PySem PySem.Spec L2
section
variable {K : PySem.W.Frag} {Φ : Phi}
/-- the tests of a comprehension -/
def tCo (K : PySem.W.Frag) (Φ : Phi) : CEs → TT
  | .nil => tYes
  | .cons e .nil => tT K Φ e
  | _ => fun _ _ _ => False
theorem tCo_run {cond : CEs} {σ : L2.St} {H Hf : Hp} {F : List Addr} {ρ ρ' : Env} {b : Bool} {Q : Bool → Hp → Prop} (s : Sta Hf H F) (sl : RSl K Hf H ρ σ F) (hd : denC Φ cond ρ = .ok b ρ')
    (h : ∀ H' Hf' F', Sta Hf' H' F' → RSl K Hf' H' ρ' σ F' → Step Hf H F Hf' H' F' → (cond.quiet = true → Calm ρ ρ' F F' H H') → Q b H') : tCo K Φ cond σ H Q := by
  match cond, hd, h with
  | .nil, hd, h =>
    simp only [denC] at hd
    cases hd
    exact h H Hf F s sl (Step.refl _ _ _) fun _ => Calm.refl _ _ _
  | .cons e .nil, hd, h =>
    simp only [denC] at hd
    cases q : den Φ e ρ with
    | ok x ρ1 =>
      rw [q] at hd
      simp only [Rx.bind] at hd
      cases ex : x.d with
      | bl c =>
        rw [ex] at hd
        cases hd
        exact tT_run s sl q ex fun H' Hf' F' h1 h2 h3 h4 => h H' Hf' F' h1 h2 h3 fun z => h4 (by simpa only [CEs.quiet, Bool.and_true] using z)
      | _ => rw [ex] at hd; cases hd
    | exc x e => rw [q] at hd; cases hd
    | stuck => rw [q] at hd; cases hd
  | .cons _ (.cons _ _), hd, h => simp only [denC] at hd; cases hd
theorem Res.step {Hf H H2 : Hp} {d : D} {x : V} (h : Res K Hf H d x H2) (hp : d.pure = true) : ∃ Hf2, RF K Hf2 d x ∧ Step Hf H [] Hf2 H2 [] ∧ Sub Hf2 H2 ∧ ∀ a o, H a = some o → H2 a = some o := by
  obtain ⟨Hf2, f, e1, e2, e3, e4, e5, e6, e7⟩ := h
  obtain ⟨_, r⟩ := (RV.of_pure hp).mp e7
  exact ⟨Hf2, r, ⟨e2, fun a o e _ => e1 a o e, (fun a ha => nomatch ha), fun a o e => (e4 a o e).imp id fun z => .inr z⟩, e3, e1⟩
/-- what stands at each turn -/
structure Lv (K : PySem.W.Frag) (Hf1 H1 : Hp) (F1 : List Addr) (qq : Bool) (ρ1 : Env) (tg : List Nat) (σ : L2.St) (Dl : Addr) (n : Nat) (i : Nat) (H : Hp) (Hf' : Hp) (F' : List Addr) (ρ' : Env) (ds : List D) (vs : List V) (g : List Addr) : Prop where
  sta : Sta Hf' H (F' ++ Dl :: g)
  sl : RSl K Hf' H ρ' (L2.wipe σ tg) F'
  step : Step Hf1 H1 F1 Hf' H (F' ++ Dl :: g)
  at_ : H Dl = some (.lst vs)
  items : RVs K Hf' H ds vs g
  few : ds.length ≤ i
  ok : okS tg ρ' = true
  wiped : wipeS tg ρ' = ρ'
  len : ρ'.length = ρ1.length
  calm : qq = true → ρ' = wipeS tg ρ1 ∧ (∀ a ∈ F1, a ∈ F') ∧ ∀ a o, H1 a = some o → H a = some o
theorem okS_wipe (tg : List Nat) (ρ : Env) : okS tg (wipeS tg ρ) = true := okS_iff.mpr fun i hi => by
  unfold getS
  rw [wipeS_get]
  split
  · rfl
  · rename_i hn
    have : ¬ i < ρ.length := fun z => hn ⟨hi, z⟩
    rw [List.getElem?_eq_none (by omega)]; rfl
theorem wipeS_wipeS (tg : List Nat) (ρ : Env) : wipeS tg (wipeS tg ρ) = wipeS tg ρ := by
  refine List.ext_getElem? fun j => ?_
  rw [wipeS_get, wipeS_len, wipeS_get]
  split <;> rfl
/-- wiped slots do not matter -/
theorem RSl.unwipe {Hf H : Hp} {σ σ' : L2.St} {F : List Addr} {tg : List Nat} {ρ : Env} (h : RSl K Hf H (wipeS tg ρ) σ F) (hl : σ'.length = σ.length) (ho : ∀ j, j ∉ tg → σ'[j]? = σ[j]?) : RSl K Hf H (wipeS tg ρ) σ' F :=
  h.swap hl fun j d e => by
    rw [wipeS_get] at e
    split at e
    · cases e
    · rename_i hn
      by_cases hj : j ∈ tg
      · have : ¬ j < ρ.length := fun z => hn ⟨hj, z⟩
        rw [List.getElem?_eq_none (by omega)] at e; cases e
      · exact ho j hj
variable {σ : L2.St} {H : Hp} {Q : VK}
theorem im_lc {own : Bool} {elt : CE} {tg : List Nat} {it : CI} {cond : CEs} (h : tE K Φ (.lc own elt tg it cond) σ H Q) : tLc (tI K Φ it) (gT K tg) (tCo K Φ cond) (tE K Φ elt) tg σ H Q := by
  obtain ⟨Hf, F, ρ, s, sl, h⟩ := tE_iff.mp h
  simp only [den] at h
  obtain ⟨xs, ρ1, e1, h⟩ := wish_bind h
  obtain ⟨ht, h⟩ := wish_if h
  obtain ⟨⟨hlen, hok⟩, h⟩ := wish_ite h
  -- the loop's own functions
  generalize hE : (fun ρ => (den Φ elt ρ).bind fun y ρ => if y.t then Rx.stuck else Rx.ok (if own then y.d else y.d.frz) ρ) = eltF at h
  cases hL : lcL (bindT tg) (denC Φ cond) eltF (okS tg) (wipeS tg) xs.d [] (wipeS tg ρ1) with
  | exc x e => rw [hL] at h; exact False.elim h
  | stuck => rw [hL] at h; exact False.elim h
  | ok ys ρe =>
    rw [hL] at h
    refine tI_iff.mpr ⟨Hf, F, ρ, s, sl, ?_⟩
    rw [e1]
    rintro J H1 ⟨Hf1, F1, w1⟩ Dl hD
    have sl1 := w1.sl
    have hDf : Dl ∉ F1 := fun z => by obtain ⟨o, e⟩ := w1.sl.tr Dl z; rw [hD] at e; cases e
    have hDn : Hf1 Dl = none := w1.sta.sub |> fun sb => Sub.none sb hD
    have hqq : ∀ t, xs.t = t → t = true → (elt.quiet && cond.quiet) = true := fun t e1 e2 => by
      rw [e1, e2] at ht
      simpa using ht
    let Pv : Nat → Hp → Prop := fun i H => ∃ Hf' F' ρ' ds vs g, Lv K Hf1 H1 F1 (elt.quiet && cond.quiet) ρ1 tg σ Dl xs.d.length i H Hf' F' ρ' ds vs g ∧ lcL (bindT tg) (denC Φ cond) eltF (okS tg) (wipeS tg) (xs.d.drop i) ds ρ' = .ok ys ρe
    have stay : ∀ i H, Pv i H → Stay xs.t Hf1 H1 H := fun i H ⟨Hf', F', ρ', ds, vs, g, L, _⟩ => ⟨fun z => (L.calm (hqq _ rfl z)).2.2, fun _ a o e => L.sta.sub a o (L.step.hf a o e)⟩
    have W : Walk J xs.d.length (fun H => Stay xs.t Hf1 H1 H) (fun i H x H' => Stay xs.t Hf1 H1 H ∧ J.yld i H x H') :=
      ⟨fun i H hi hg => w1.walk.goes i H hi hg, fun H hg => w1.walk.stops H hg, fun i H x H' hi hg y => ⟨hg, y⟩⟩
    refine lc_it W Pv ?_ (fun i H _ p => stay i H p) ?_ ?_
    · -- the start
      refine ⟨Hf1, F1, wipeS tg ρ1, [], [], [], ⟨?_, ?_, ?_, upd_same, by simp only [RVs]; exact ⟨trivial, trivial⟩, Nat.le_refl _, okS_wipe _ _, wipeS_wipeS _ _, wipeS_len _ _, fun _ => ⟨rfl, fun _ h => h, upd_sub hD⟩⟩, hL⟩
      · refine ⟨?_, fun a ha => ?_, fun a o e => upd_sub hD a o (w1.sta.sub a o e)⟩
        · exact List.nodup_append.mpr ⟨w1.sta.nd, by simp, fun a ha b hb e => by rw [List.mem_singleton.mp hb] at e; exact hDf (e ▸ ha)⟩
        · rcases List.mem_append.mp ha with ha | ha
          · exact w1.sta.off a ha
          · rw [List.mem_singleton.mp ha]; exact hDn
      · have q := (sl1.wipes hok).unwipe (σ' := L2.wipe σ tg) (by rw [L2.wipe_length]) fun j hj => by rw [wipe_get, if_neg fun z => hj z.1]
        exact RSl.keep (Ext.refl _) _ _ _ q fun a ha => upd_ne fun e => hDf (e ▸ ha)
      · refine ⟨fun _ _ e => e, fun a o e _ => upd_sub hD a o e, fun a ha => ?_, fun _ _ e => .inl e⟩
        rcases List.mem_append.mp ha with ha | ha
        · exact .inl ha
        · rw [List.mem_singleton.mp ha]; exact .inr hD
    · -- a turn
      rintro i x H H2 hi ⟨Hf', F', ρ', ds, vs, g, L, hl⟩ ⟨hg, hy⟩
      obtain ⟨d, hd, hr⟩ := w1.walk.yields i H x H2 Hf' hi hg L.sta.sub L.step.hf hy
      have hdp : d.pure = true := List.all_eq_true.mp w1.pure d (List.mem_of_getElem? hd)
      obtain ⟨Hf2, rf, st2, sb2, k2⟩ := hr.step hdp
      have trk : ∀ a ∈ F' ++ Dl :: g, ∃ o, H a = some o ∧ Mut (some o) := fun a ha => by
        rcases List.mem_append.mp ha with h | h
        · exact L.sl.tracked a h
        · rcases List.mem_cons.mp h with rfl | h
          · exact ⟨_, L.at_, trivial⟩
          · exact RVs.tracked _ _ _ L.items a h
      obtain ⟨s2, e2⟩ := Step.by_ (F := []) (g := F' ++ Dl :: g) L.sta trk st2 ⟨List.nodup_nil, (fun a ha => nomatch ha), sb2⟩
      have s2 : Sta Hf2 H2 (F' ++ Dl :: g) := s2
      have st2' : Step Hf1 H1 F1 Hf2 H2 (F' ++ Dl :: g) := L.step.trans (by simpa using st2.wide (g := F' ++ Dl :: g))
      have sl2 : RSl K Hf2 H2 ρ' (L2.wipe σ tg) F' := RSl.keep st2.ext _ _ _ L.sl fun a ha => e2 a (List.mem_append_left _ ha)
      have it2 : RVs K Hf2 H2 ds vs g := RVs.keep st2.ext _ _ _ L.items fun a ha => e2 a (List.mem_append_right _ (List.mem_cons_of_mem _ ha))
      have at2 : H2 Dl = some (.lst vs) := (e2 Dl (by simp)).trans L.at_
      -- the turn's reckoning
      have hdrop : xs.d.drop i = d :: xs.d.drop (i + 1) := by
        rw [List.drop_eq_getElem_cons hi]
        have := List.getElem?_eq_getElem hi
        rw [hd] at this
        rw [← Option.some.inj this]
      rw [hdrop] at hl
      simp only [lcL] at hl
      cases hb : bindT tg d ρ' with
      | none => rw [hb] at hl; cases hl
      | some ρb =>
        rw [hb] at hl
        simp only at hl
        obtain ⟨hbl, hbo⟩ := bindT_len hb
        refine bind_run hb rf sb2 sl2 L.ok fun σ1 b => ⟨?_, ?_⟩
        · have : L2.wipe σ1 tg = L2.wipe (L2.wipe σ tg) tg := wipe_eq (by rw [b.len]) fun j hj => b.old j hj
          rw [this]
          exact wipe_eq (by rw [L2.wipe_length]) fun j hj => by rw [wipe_get, if_neg fun z => hj z.1]
        · -- back to the head of the loop
          have head : ∀ (H4 Hf4 : Hp) (F4 : List Addr) (ρ4 : Env) (ds' : List D) (vs' : List V) (g' : List Addr), Sta Hf4 H4 (F4 ++ Dl :: g') → RSl K Hf4 H4 ρ4 σ1 F4 → Step Hf1 H1 F1 Hf4 H4 (F4 ++ Dl :: g') → H4 Dl = some (.lst vs') → RVs K Hf4 H4 ds' vs' g' → ds'.length ≤ i + 1 → okS tg ρ4 = true → ρ4.length = ρb.length →
              ((elt.quiet && cond.quiet) = true → ρ4 = ρb ∧ (∀ a ∈ F', a ∈ F4) ∧ ∀ a o, H1 a = some o → H4 a = some o) → lcL (bindT tg) (denC Φ cond) eltF (okS tg) (wipeS tg) (xs.d.drop (i + 1)) ds' (wipeS tg ρ4) = .ok ys ρe → Pv (i + 1) H4 := by
            intro H4 Hf4 F4 ρ4 ds' vs' g' a1 a2 a3 a4 a5 a6 a7 a9 a10 a11
            refine ⟨Hf4, F4, wipeS tg ρ4, ds', vs', g', ⟨a1, ?_, a3, a4, a5, a6, okS_wipe _ _, wipeS_wipeS _ _, ?_, fun z => ?_⟩, a11⟩
            · exact (a2.wipes a7).unwipe (by rw [b.len]) fun j hj => (b.old j hj).symm
            · rw [wipeS_len, a9, hbl, L.len]
            · obtain ⟨c1, c2, c3⟩ := a10 z
              obtain ⟨d1, d2, d3⟩ := L.calm z
              refine ⟨?_, fun a ha => c2 a (d2 a ha), c3⟩
              rw [c1]
              rw [d1] at hb
              exact wipeS_bind hb
          cases hc : denC Φ cond ρb with
          | exc x e => rw [hc] at hl; cases hl
          | stuck => rw [hc] at hl; cases hl
          | ok cb ρ2 =>
            rw [hc] at hl
            refine tCo_run (s2.less (List.sublist_append_left _ _)) b.sl hc fun H3 Hf3 F3 c1 c2 c3 c4 => ?_
            have trk2 : ∀ a ∈ Dl :: g, ∃ o, H2 a = some o ∧ Mut (some o) := fun a ha => by
              rcases List.mem_cons.mp ha with rfl | ha
              · exact ⟨_, at2, trivial⟩
              · exact RVs.tracked _ _ _ it2 a ha
            obtain ⟨s3, e3⟩ := Step.by_ s2 trk2 c3 c1
            have st3 : Step Hf1 H1 F1 Hf3 H3 (F3 ++ Dl :: g) := st2'.trans c3.wide
            have it3 : RVs K Hf3 H3 ds vs g := RVs.keep c3.ext _ _ _ it2 fun a ha => e3 a (List.mem_cons_of_mem _ ha)
            have at3 : H3 Dl = some (.lst vs) := (e3 Dl List.mem_cons_self).trans at2
            cases cb with
            | false =>
              rw [if_neg (by decide)]
              simp only at hl
              split at hl
              · rename_i ok2
                exact head H3 Hf3 F3 ρ2 ds vs g s3 c2 st3 at3 it3 (by have := L.few; omega) ok2 (by
                  have := c2.length; have q := b.sl.length; omega) (fun z => by
                  have d3 := (L.calm z).2.2
                  rw [Bool.and_eq_true] at z
                  obtain ⟨z1, z2, z3⟩ := c4 z.2
                  exact ⟨z1, z2, fun a o e => z3 a o (k2 a o (d3 a o e))⟩) hl
              · cases hl
            | true =>
              rw [if_pos rfl]
              simp only at hl
              cases hy0 : eltF ρ2 with
              | exc x e => rw [hy0] at hl; cases hl
              | stuck => rw [hy0] at hl; cases hl
              | ok yd0 ρ3o =>
                rw [hy0] at hl
                simp only at hl
                have hq0 := congrFun hE ρ2
                rw [hy0] at hq0
                cases he : den Φ elt ρ2 with
                | exc x e => rw [he] at hq0; cases hq0
                | stuck => rw [he] at hq0; cases hq0
                | ok y ρ3 =>
                  rw [he] at hq0
                  simp only [Rx.bind] at hq0
                  cases hyt : y.t with
                  | true => simp only [hyt, if_true] at hq0; cases hq0
                  | false =>
                  simp only [hyt, Bool.false_eq_true, if_false, Rx.ok.injEq] at hq0
                  obtain ⟨rfl, rfl⟩ := hq0
                  refine tE_run c1 c2 he fun u H4 Hf4 F4 f4 w4 => ?_
                  have trk3 : ∀ a ∈ Dl :: g, ∃ o, H3 a = some o ∧ Mut (some o) := fun a ha => by
                    rcases List.mem_cons.mp ha with rfl | ha
                    · exact ⟨_, at3, trivial⟩
                    · exact RVs.tracked _ _ _ it3 a ha
                  obtain ⟨s4, e4⟩ := Step.by_ s3 trk3 w4.step w4.sta
                  have st4 : Step Hf1 H1 F1 Hf4 H4 ((F4 ++ f4) ++ Dl :: g) := st3.trans w4.step.wide
                  have it4 : RVs K Hf4 H4 ds vs g := RVs.keep w4.step.ext _ _ _ it3 fun a ha => e4 a (List.mem_cons_of_mem _ ha)
                  have at4 : H4 Dl = some (.lst vs) := (e4 Dl List.mem_cons_self).trans at3
                  have oy : RV K Hf4 H4 y.d u f4 := by
                    rcases w4.own with ⟨_, h⟩ | ⟨h, _⟩
                    · exact h
                    · rw [hyt] at h; cases h
                  have lvs : vs.length = ds.length := L.items.length
                  have few := L.few
                  refine ⟨vs, at4, by omega, ?_⟩
                  split at hl
                  · rename_i ok3
                    have calm4 : (elt.quiet && cond.quiet) = true → ρ3 = ρb ∧ (∀ a ∈ F', a ∈ F4) ∧ ∀ a o, H1 a = some o → upd H4 Dl (.lst (vs ++ [u])) a = some o := fun z => by
                      have d3 := (L.calm z).2.2
                      rw [Bool.and_eq_true] at z
                      obtain ⟨z1, z2, z3⟩ := c4 z.2
                      obtain ⟨y1, y2, y3⟩ := w4.calm z.1
                      refine ⟨y1.trans z1, fun a ha => y2 a (z2 a ha), fun a o e => ?_⟩
                      rw [upd_ne fun z => by rw [z, hD] at e; cases e]
                      exact y3 a o (z3 a o (k2 a o (d3 a o e)))
                    have hl3 : ρ3.length = ρb.length := by
                      have q1 := w4.sl.length
                      have q2 := b.sl.length
                      omega
                    -- the list longer by one
                    have fin : ∀ (Hf5 : Hp) (yd : D) (fy : List Addr), Sta Hf5 H4 ((F4 ++ fy) ++ Dl :: g) → RSl K Hf5 H4 ρ3 σ1 F4 → Step Hf1 H1 F1 Hf5 H4 ((F4 ++ fy) ++ Dl :: g) → RVs K Hf5 H4 ds vs g → RV K Hf5 H4 yd u fy → lcL (bindT tg) (denC Φ cond) eltF (okS tg) (wipeS tg) (xs.d.drop (i + 1)) (ds ++ [yd]) (wipeS tg ρ3) = .ok ys ρe → Pv (i + 1) (upd H4 Dl (.lst (vs ++ [u]))) := by
                      intro Hf5 yd fy s5 sl5 st5 it5 oy5 hl5
                      have p5 : ((F4 ++ fy) ++ Dl :: g).Perm (F4 ++ Dl :: (g ++ fy)) := by
                        rw [List.append_assoc]
                        refine List.Perm.append_left F4 ?_
                        have q := (List.perm_append_comm (l₁ := fy) (l₂ := Dl :: g))
                        simpa using q
                      have s5' := s5.perm p5
                      have n5 := s5'.nd
                      have nD : Dl ∉ F4 := fun z => (List.nodup_append.mp n5).2.2 Dl z Dl List.mem_cons_self rfl
                      have nD2 : Dl ∉ g ++ fy := (List.nodup_cons.mp (List.nodup_append.mp n5).2.1).1
                      have hD5 : Hf5 Dl = none := s5'.off Dl (by simp)
                      refine head _ Hf5 F4 ρ3 (ds ++ [yd]) (vs ++ [u]) (g ++ fy) ⟨n5, s5'.off, fun a o e => ?_⟩ (RSl.keep (Ext.refl _) _ _ _ sl5 fun a ha => upd_ne fun e => nD (e ▸ ha)) ?_ upd_same
                        ((RVs.app it5 (show RVs K Hf5 H4 [yd] [u] fy by simp only [RVs]; exact ⟨u, [], fy, [], rfl, by simp, oy5, rfl, rfl⟩)).upd_ nD2) (by simp; omega) ok3 hl3 calm4 hl5
                      · have : a ≠ Dl := fun z => by rw [z, hD5] at e; cases e
                        rw [upd_ne this]; exact s5'.sub a o e
                      · have q := st5.perm p5
                        refine ⟨q.hf, fun a o e ha => ?_, q.own, q.new⟩
                        have : a ≠ Dl := fun z => by rw [z, hD] at e; cases e
                        rw [upd_ne this]; exact q.keep a o e ha
                    cases own with
                    | true => exact fin Hf4 y.d f4 s4 w4.sl st4 it4 oy (by simpa using hl)
                    | false =>
                      have sF : Sta Hf4 H4 ((F4 ++ Dl :: g) ++ f4) := s4.perm (by
                        rw [List.append_assoc, List.append_assoc]
                        exact List.Perm.append_left F4 List.perm_append_comm)
                      have stF : Step Hf1 H1 F1 Hf4 H4 ((F4 ++ Dl :: g) ++ f4) := st4.perm (by
                        rw [List.append_assoc, List.append_assoc]
                        exact List.Perm.append_left F4 List.perm_append_comm)
                      exact fin (withF Hf4 H4 f4) y.d.frz [] (by simpa using freeze_sta sF) (RSl.keep (.of withT_old) _ _ _ w4.sl fun _ _ => rfl) (by simpa using stF.trans freeze_step) (RVs.keep (.of withT_old) _ _ _ it4 fun _ _ => rfl)
                        (RV.of_RF (frz_freeze sF oy)) (by simpa using hl)
                  · cases hl
    · -- the end
      rintro H ⟨Hf', F', ρ', ds, vs, g, L, hl⟩
      rw [List.drop_length] at hl
      simp only [lcL] at hl
      cases hl
      refine h _ H ⟨Hf', F', Dl :: g, L.sta, ?_, w1.step.trans L.step, .inl ⟨rfl, mk_lst L.at_ L.items⟩, fun z => ?_⟩
      · have q : RSl K Hf' H (wipeS tg ρe) σ F' := by
          have := L.sl
          rw [← L.wiped] at this
          exact this.unwipe (by rw [L2.wipe_length]) fun j hj => by rw [wipe_get, if_neg fun z => hj z.1]
        rw [L.wiped] at q
        refine q.back L.ok fun i hi d e hp => ?_
        obtain ⟨v, g', rest, t1, _, t3, _⟩ := w1.sl.take e
        obtain ⟨_, rf⟩ := (RV.of_pure hp).mp t3
        exact ⟨v, t1, RF.ext L.step.ext _ _ rf⟩
      · have z : (elt.quiet && it.quiet && cond.quiet) = true := z
        rw [Bool.and_eq_true, Bool.and_eq_true] at z
        obtain ⟨d1, d2, d3⟩ := L.calm (by rw [Bool.and_eq_true]; exact ⟨z.1.1, z.2⟩)
        obtain ⟨c1, c2, c3⟩ := w1.calm z.1.2
        refine ⟨?_, fun a ha => d2 a (c2 a ha), fun a o e => d3 a o (c3 a o e)⟩
        rw [d1, backS_wipe hok]
        exact c1
end
end Mini
set_option linter.all false
set_option maxRecDepth 10000
/-! M4j: calls. -/
namespace Mini
open PySem PySem.Spec L2
/-- the values at the places told -/
def pick (vs : List V) : List Nat → Option (List V)
  | [] => some []
  | i :: is => (vs[i]?).bind fun v => (pick vs is).map fun r => v :: r
/-- what a def promises: r tells its answer -/
def spF (K : PySem.W.Frag) (io : List Nat) (r : List D → Cr) : Sp := fun vs H Q _ => ∃ Hf F args, Sta Hf H F ∧ RVs K Hf H args vs F ∧ match r args with
  | .ok d outs => ∀ v H' Hf' F' f, Sta Hf' H' (F' ++ f) → Step Hf H F Hf' H' (F' ++ f) → RV K Hf' H' d v f → (∃ ws, pick vs io = some ws ∧ RVs K Hf' H' outs ws F') → Q v H'
  | _ => False
section
variable {K : PySem.W.Frag} {Φ : Phi}
def ArgR (K : PySem.W.Frag) (Hf : Hp) (σ : L2.St) : CA → List D → List V → Prop
  | .nil, ds, vs => ds = [] ∧ vs = []
  | .val _ as, ds, vs => ∃ d ds' v vs', ds = d :: ds' ∧ vs = v :: vs' ∧ RF K Hf d v ∧ ArgR K Hf σ as ds' vs'
  | .io i as, ds, vs => ∃ v vs', vs = v :: vs' ∧ σ[i]? = some (some v) ∧ ArgR K Hf σ as ds vs'
  | .bor i as, ds, vs => ∃ v vs', vs = v :: vs' ∧ σ[i]? = some (some v) ∧ ArgR K Hf σ as ds vs'
theorem ArgR.ext {Hf Hf' : Hp} {σ : L2.St} (e : Ext Hf Hf') : ∀ {as : CA} {ds : List D} {vs : List V}, ArgR K Hf σ as ds vs → ArgR K Hf' σ as ds vs
  | .nil, ds, vs, h => h
  | .val _ as, ds, vs, ⟨d, ds', v, vs', h1, h2, h3, h4⟩ => ⟨d, ds', v, vs', h1, h2, RF.ext e _ _ h3, ArgR.ext e h4⟩
  | .io i as, ds, vs, ⟨v, vs', h1, h2, h3⟩ => ⟨v, vs', h1, h2, ArgR.ext e h3⟩
  | .bor i as, ds, vs, ⟨v, vs', h1, h2, h3⟩ => ⟨v, vs', h1, h2, ArgR.ext e h3⟩
structure PstC (K : PySem.W.Frag) (Hf H : Hp) (F : List Addr) (ρ : Env) (σ : L2.St) (as : CA) (ds : List D) (ρ' : Env) (vs : List V) (H' : Hp) (Hf' : Hp) (F' : List Addr) : Prop where
  sta : Sta Hf' H' F'
  sl : RSl K Hf' H' ρ' σ F'
  step : Step Hf H F Hf' H' F'
  calm : as.quiet = true → Calm ρ ρ' F F' H H'
  arg : ArgR K Hf' σ as ds vs
def tA (K : PySem.W.Frag) (Φ : Phi) (as : CA) : TA := fun σ H Q => ∃ Hf F ρ, Sta Hf H F ∧ RSl K Hf H ρ σ F ∧ match denA Φ as ρ with
  | .ok ds ρ' => ∀ vs H', (∃ Hf' F', PstC K Hf H F ρ σ as ds ρ' vs H' Hf' F') → Q vs H'
  | _ => False
variable {σ : L2.St} {H : Hp}
theorem tA_run {as : CA} {Hf : Hp} {F : List Addr} {ρ ρ' : Env} {ds : List D} {Q : List V → Hp → Prop} (s : Sta Hf H F) (sl : RSl K Hf H ρ σ F) (hd : denA Φ as ρ = .ok ds ρ') (h : ∀ vs H' Hf' F', PstC K Hf H F ρ σ as ds ρ' vs H' Hf' F' → Q vs H') : tA K Φ as σ H Q :=
  ⟨Hf, F, ρ, s, sl, by rw [hd]; exact fun vs H' ⟨Hf', F', w⟩ => h vs H' Hf' F' w⟩
theorem im_anil {Q : List V → Hp → Prop} (h : tA K Φ .nil σ H Q) : tNil σ H Q := by
  obtain ⟨Hf, F, ρ, s, sl, h⟩ := h
  simp only [denA] at h
  exact h [] H ⟨Hf, F, s, sl, Step.refl _ _ _, fun _ => Calm.refl _ _ _, rfl, rfl⟩
theorem im_aval {e : CE} {as : CA} {Q : List V → Hp → Prop} (h : tA K Φ (.val e as) σ H Q) : tCons (tE K Φ e) (tA K Φ as) σ H Q := by
  obtain ⟨Hf, F, ρ, s, sl, h⟩ := h
  simp only [denA] at h
  cases q : den Φ e ρ with
  | exc x e => rw [q] at h; exact False.elim h
  | stuck => rw [q] at h; exact False.elim h
  | ok x ρ1 =>
    rw [q] at h
    simp only [Rx.bind] at h
    cases ht : x.t with
    | true => simp only [ht, if_true] at h
    | false =>
      simp only [ht, Bool.false_eq_true, if_false] at h
      cases q2 : denA Φ as ρ1 with
      | exc x e => rw [q2] at h; exact False.elim h
      | stuck => rw [q2] at h; exact False.elim h
      | ok ds ρ2 =>
        rw [q2] at h
        simp only at h
        refine tE_run s sl q fun v H1 Hf1 F1 f1 w1 => ?_
        have ov : RV K Hf1 H1 x.d v f1 := by
          rcases w1.own with ⟨_, h⟩ | ⟨h, _⟩
          · exact h
          · rw [ht] at h; cases h
        refine tA_run (freeze_sta w1.sta) (RSl.keep (.of withT_old) _ _ _ w1.sl fun _ _ => rfl) q2 fun vs H2 Hf2 F2 w2 => h (v :: vs) H2 ⟨Hf2, F2, w2.sta, w2.sl, (w1.step.trans freeze_step).trans w2.step, fun z => ?_, x.d.frz, ds, v, vs, rfl, rfl, RF.ext w2.step.ext _ _ (frz_freeze w1.sta ov), w2.arg⟩
        simp only [CA.quiet, Bool.and_eq_true] at z
        exact (w1.calm z.1).trans (w2.calm z.2)
theorem im_aslot {i : Nat} {as : CA} {c : CA} {Q : List V → Hp → Prop} (hc : c = .io i as ∨ c = .bor i as) (h : tA K Φ c σ H Q) : tCons (tVar i) (tA K Φ as) σ H Q := by
  obtain ⟨Hf, F, ρ, s, sl, h⟩ := h
  have hd : denA Φ c ρ = if (getS ρ i).isSome then denA Φ as ρ else .stuck := by rcases hc with rfl | rfl <;> simp only [denA]
  rw [hd] at h
  cases e : getS ρ i with
  | none => simp only [e, Option.isSome_none, Bool.false_eq_true, if_false] at h
  | some d =>
    simp only [e, Option.isSome_some, if_true] at h
    obtain ⟨v, g, rest, h1, _⟩ := sl.take e
    refine ⟨v, h1, ?_⟩
    cases q2 : denA Φ as ρ with
    | exc x e => rw [q2] at h; exact False.elim h
    | stuck => rw [q2] at h; exact False.elim h
    | ok ds ρ2 =>
      rw [q2] at h
      refine tA_run s sl q2 fun vs H2 Hf2 F2 w2 => h (v :: vs) H2 ⟨Hf2, F2, w2.sta, w2.sl, w2.step, fun z => ?_, ?_⟩
      · rcases hc with rfl | rfl
        · exact nomatch (show false = true from z)
        · exact w2.calm (by simpa only [CA.quiet] using z)
      · rcases hc with rfl | rfl
        · exact ⟨v, vs, rfl, h1, w2.arg⟩
        · exact ⟨v, vs, rfl, h1, w2.arg⟩
theorem im_aio {i : Nat} {as : CA} {Q : List V → Hp → Prop} (h : tA K Φ (.io i as) σ H Q) : tCons (tVar i) (tA K Φ as) σ H Q := im_aslot (.inl rfl) h
theorem im_abor {i : Nat} {as : CA} {Q : List V → Hp → Prop} (h : tA K Φ (.bor i as) σ H Q) : tCons (tVar i) (tA K Φ as) σ H Q := im_aslot (.inr rfl) h
/-- the arguments' things taken out of their slots -/
theorem fill_run {Hf : Hp} : ∀ {as : CA} {ds : List D} {vs : List V} {args : List D} {ρ0 ρ : Env} {F : List Addr}, ArgR K Hf σ as ds vs → as.fill ds ρ0 = some args → as.hasBor = false → as.ios.Nodup → RSl K Hf H ρ σ F → (∀ i ∈ as.ios, getS ρ i = getS ρ0 i) →
    ∃ Fa rest, F.Perm (Fa ++ rest) ∧ RVs K Hf H args vs Fa ∧ RSl K Hf H (wipeS as.ios ρ) σ rest ∧ (as.ios = [] → Fa = [])
  | .nil, ds, vs, args, ρ0, ρ, F, ha, hf, hb, nd, sl, hg => by
    obtain ⟨rfl, rfl⟩ := ha
    simp only [CA.fill, Option.some.injEq] at hf
    subst hf
    exact ⟨[], F, List.Perm.refl _, by simp only [RVs]; exact ⟨trivial, trivial⟩, sl, fun _ => rfl⟩
  | .val _ as, ds, vs, args, ρ0, ρ, F, ha, hf, hb, nd, sl, hg => by
    obtain ⟨d, ds', v, vs', rfl, rfl, h3, h4⟩ := ha
    simp only [CA.fill] at hf
    obtain ⟨r, h5, rfl⟩ := Option.map_eq_some_iff.mp hf
    obtain ⟨Fa, rest, p1, p2, p3, p4⟩ := fill_run h4 h5 hb nd sl hg
    exact ⟨Fa, rest, p1, by simp only [RVs]; exact ⟨v, vs', [], Fa, rfl, rfl, RV.of_RF h3, p2⟩, p3, p4⟩
  | .io i as, ds, vs, args, ρ0, ρ, F, ha, hf, hb, nd, sl, hg => by
    obtain ⟨v, vs', rfl, h2, h3⟩ := ha
    simp only [CA.fill] at hf
    obtain ⟨d, e1, hf⟩ := Option.bind_eq_some_iff.mp hf
    obtain ⟨r, h5, rfl⟩ := Option.map_eq_some_iff.mp hf
    have nd := List.nodup_cons.mp nd
    rw [← hg i (by simp [CA.ios])] at e1
    obtain ⟨v', g, rest1, t1, t2, t3, t4⟩ := sl.take e1
    rw [h2] at t1; cases t1
    obtain ⟨Fa, rest, p1, p2, p3, p4⟩ := fill_run h3 h5 hb nd.2 t4 fun j hj => by
      have hne : i ≠ j := fun e => nd.1 (by rw [e]; exact hj)
      rw [getS_set_ne hne]
      exact hg j (by simp only [CA.ios, List.mem_cons]; exact .inr hj)
    refine ⟨g ++ Fa, rest, ?_, by simp only [RVs]; exact ⟨v, vs', g, Fa, rfl, rfl, t3, p2⟩, p3, fun z => by simp [CA.ios] at z⟩
    rw [List.append_assoc]
    exact t2.trans (p1.append_left g)
  | .bor i as, ds, vs, args, ρ0, ρ, F, ha, hf, hb, nd, sl, hg => by cases hb
/-- in the callee's eyes all is frozen -/
theorem fill_bor {Hf : Hp} {F : List Addr} {ρ : Env} (s : Sta Hf H F) (sl : RSl K Hf H ρ σ F) : ∀ {as : CA} {ds : List D} {vs : List V} {args : List D}, ArgR K Hf σ as ds vs → as.fill ds ρ = some args → as.ios = [] → RFs K (withF Hf H F) args vs
  | .nil, ds, vs, args, ha, hf, _ => by
    obtain ⟨rfl, rfl⟩ := ha
    simp only [CA.fill, Option.some.injEq] at hf
    subst hf
    simp only [RFs]
  | .val _ as, ds, vs, args, ha, hf, hi => by
    obtain ⟨d, ds', v, vs', rfl, rfl, h3, h4⟩ := ha
    simp only [CA.fill] at hf
    obtain ⟨r, h5, rfl⟩ := Option.map_eq_some_iff.mp hf
    simp only [RFs]
    exact ⟨v, vs', rfl, RF.ext (.of withT_old) _ _ h3, fill_bor s sl h4 h5 hi⟩
  | .io i as, ds, vs, args, ha, hf, hi => by simp [CA.ios] at hi
  | .bor i as, ds, vs, args, ha, hf, hi => by
    obtain ⟨v, vs', rfl, h2, h3⟩ := ha
    simp only [CA.fill] at hf
    obtain ⟨d, e1, hf⟩ := Option.bind_eq_some_iff.mp hf
    obtain ⟨r, h5, rfl⟩ := Option.map_eq_some_iff.mp hf
    obtain ⟨v', g, rest1, t1, t2, t3, t4⟩ := sl.take e1
    rw [h2] at t1; cases t1
    simp only [RFs]
    exact ⟨v, vs', rfl, RV.freeze (.of withT_old) _ _ _ t3 fun a ha => withF_at (fun b hb => s.off b hb) (t2.mem_iff.mpr (List.mem_append_left _ ha)) |> fun h => h, fill_bor s sl h3 h5 hi⟩
theorem setAll_wipe : ∀ {is : List Nat} {ds : List D} {ρ : Env}, ds.length = is.length → setAll is ds (wipeS is ρ) = setAll is ds ρ := by
  intro is
  -- only what stands elsewhere matters
  have key : ∀ (is : List Nat) (ds : List D) (ρ ρ' : Env), ds.length = is.length → ρ'.length = ρ.length → (∀ j, j ∉ is → ρ'[j]? = ρ[j]?) → setAll is ds ρ' = setAll is ds ρ := by
    intro is
    induction is with
    | nil =>
      intro ds ρ ρ' hl h1 h2
      have : ρ' = ρ := List.ext_getElem? fun j => h2 j (by simp)
      rw [this]
    | cons i is ih =>
      intro ds ρ ρ' hl h1 h2
      cases ds with
      | nil => simp at hl
      | cons d ds =>
        show setAll is ds (ρ'.set i (some d)) = setAll is ds (ρ.set i (some d))
        refine ih ds _ _ (by simpa using hl) (by simp [h1]) fun j hj => ?_
        by_cases e : i = j
        · subst e
          by_cases hi : i < ρ.length
          · rw [List.getElem?_set_self hi, List.getElem?_set_self (by omega)]
          · rw [List.getElem?_eq_none (by rw [List.length_set]; omega), List.getElem?_eq_none (by rw [List.length_set]; omega)]
        · rw [List.getElem?_set_ne e, List.getElem?_set_ne e]
          exact h2 j (by simp only [List.mem_cons, not_or]; exact ⟨fun z => e z.symm, hj⟩)
  intro ds ρ hl
  exact key is ds ρ _ hl (wipeS_len _ _) fun j hj => by rw [wipeS_get, if_neg fun z => hj z.1]
/-- and put back -/
theorem give_all {Hf : Hp} : ∀ {is : List Nat} {outs : List D} {ws : List V} {ρ : Env} {rest F' : List Addr}, is.Nodup → RSl K Hf H ρ σ rest → (∀ i ∈ is, ρ[i]? = some none) → (∀ (j : Nat) (i : Nat), is[j]? = some i → ∃ w, ws[j]? = some w ∧ σ[i]? = some (some w)) → outs.length = is.length → RVs K Hf H outs ws F' →
    ∃ F'', F''.Perm (F' ++ rest) ∧ RSl K Hf H (setAll is outs ρ) σ F''
  | [], outs, ws, ρ, rest, F', nd, sl, hn, hw, hl, r => by
    have : outs = [] := List.length_eq_zero_iff.mp (by simpa using hl)
    subst this
    simp only [RVs] at r
    obtain ⟨rfl, rfl⟩ := r
    exact ⟨rest, List.Perm.refl _, sl⟩
  | i :: is, [], ws, ρ, rest, F', nd, sl, hn, hw, hl, r => by simp at hl
  | i :: is, d :: outs, ws, ρ, rest, F', nd, sl, hn, hw, hl, r => by
    simp only [RVs] at r
    obtain ⟨v, r0, f1, f2, rfl, rfl, h1, h2⟩ := r
    obtain ⟨w, e1, e2⟩ := hw 0 i rfl
    simp at e1
    subst e1
    have nd := List.nodup_cons.mp nd
    obtain ⟨F1, p1, sl1⟩ := sl.give (hn i List.mem_cons_self) e2 h1
    obtain ⟨F2, p2, sl2⟩ := give_all nd.2 sl1 (fun j hj => by
      have hne : i ≠ j := fun e => nd.1 (by rw [e]; exact hj)
      rw [List.getElem?_set_ne hne]
      exact hn j (List.mem_cons_of_mem _ hj)) (fun j k e => by
      obtain ⟨w', a, b⟩ := hw (j + 1) k (by simpa using e)
      exact ⟨w', by simpa using a, b⟩) (by simpa using hl) h2
    refine ⟨F2, ?_, sl2⟩
    refine p2.trans ((p1.append_left f2).trans ?_)
    have := (List.perm_append_comm (l₁ := f2) (l₂ := f1)).append_right rest
    simpa [List.append_assoc] using this
theorem pick_at {vs : List V} : ∀ {is : List Nat} {ws : List V}, pick vs is = some ws → ∀ (j i : Nat), is[j]? = some i → ∃ w, ws[j]? = some w ∧ vs[i]? = some w
  | [], ws, h, j, i, e => by simp at e
  | k :: is, ws, h, j, i, e => by
    simp only [pick] at h
    obtain ⟨v, h1, h⟩ := Option.bind_eq_some_iff.mp h
    obtain ⟨r, h2, rfl⟩ := Option.map_eq_some_iff.mp h
    cases j with
    | zero => simp at e; subst e; exact ⟨v, rfl, h1⟩
    | succ j => simpa using pick_at h2 j i (by simpa using e)
theorem ios_at {Hf : Hp} : ∀ {as : CA} {ds : List D} {vs pre : List V}, ArgR K Hf σ as ds vs → ∀ (j i p : Nat), as.ios[j]? = some i → (as.iopos pre.length)[j]? = some p → ∃ w, (pre ++ vs)[p]? = some w ∧ σ[i]? = some (some w)
  | .nil, ds, vs, pre, ha, j, i, p, h1, h2 => by simp [CA.ios] at h1
  | .val _ as, ds, vs, pre, ha, j, i, p, h1, h2 => by
    obtain ⟨d, ds', v, vs', rfl, rfl, h3, h4⟩ := ha
    have := ios_at (pre := pre ++ [v]) h4 j i p (by simpa [CA.ios] using h1) (by simpa [CA.iopos] using h2)
    simpa using this
  | .bor _ as, ds, vs, pre, ha, j, i, p, h1, h2 => by
    obtain ⟨v, vs', rfl, h3, h4⟩ := ha
    have := ios_at (pre := pre ++ [v]) h4 j i p (by simpa [CA.ios] using h1) (by simpa [CA.iopos] using h2)
    simpa using this
  | .io k as, ds, vs, pre, ha, j, i, p, h1, h2 => by
    obtain ⟨v, vs', rfl, h3, h4⟩ := ha
    cases j with
    | zero =>
      simp [CA.ios] at h1
      simp [CA.iopos] at h2
      subst h1 h2
      exact ⟨v, by simp, h3⟩
    | succ j =>
      have := ios_at (pre := pre ++ [v]) h4 j i p (by simpa [CA.ios] using h1) (by simpa [CA.iopos] using h2)
      simpa using this
theorem iopos_len : ∀ (as : CA) (n : Nat), (as.iopos n).length = as.ios.length
  | .nil, n => rfl
  | .val _ as, n => iopos_len as (n + 1)
  | .io _ as, n => by simp [CA.iopos, CA.ios, iopos_len as (n + 1)]
  | .bor _ as, n => iopos_len as (n + 1)
theorem flat_RF {Hf Hf' H' : Hp} {d : D} {v : V} {f : List Addr} (h : d.flat = true) (r : RV K Hf' H' d v f) : RF K Hf d v := by
  cases d <;> simp only [D.flat] at h <;> first | cases h | skip
  all_goals (simp only [RV, RF] at r ⊢; exact r.2)
theorem quiet_ios : ∀ {as : CA}, as.quiet = true → as.ios = []
  | .nil, _ => rfl
  | .val e as, h => by simp only [CA.quiet, Bool.and_eq_true] at h; exact quiet_ios (as := as) h.2
  | .io _ _, h => by simp [CA.quiet] at h
  | .bor _ as, h => by simp only [CA.quiet] at h; exact quiet_ios (as := as) h
theorem im_call {f : Nat} {as : CA} {io : List Nat} {E : XK} {Q : VK} (hio : io = as.iopos 0) (hnd : as.ios.Nodup) (h : tE K Φ (.call f as) σ H Q) : tCall (spF K io (Φ f)) [] E (tA K Φ as) σ H Q := by
  obtain ⟨Hf, F, ρ, s, sl, h⟩ := tE_iff.mp h
  simp only [den] at h
  obtain ⟨ds, ρ1, e1, h⟩ := wish_bind h
  refine tA_run s sl e1 fun vs H1 Hf1 F1 w1 => ?_
  cases hf : as.fill ds ρ1 with
  | none => rw [hf] at h; exact False.elim h
  | some args =>
    rw [hf] at h
    simp only at h
    cases hr : Φ f args with
    | exc x outs => rw [hr] at h; simp only at h; split at h <;> try exact False.elim h
                    split at h <;> exact False.elim h
    | stuck => rw [hr] at h; exact False.elim h
    | ok d outs =>
      rw [hr] at h
      simp only at h
      cases hb : as.hasBor with
      | true =>
        simp only [hb, Bool.true_and] at h
        obtain ⟨hfl, h⟩ := wish_if h
        obtain ⟨hl, h⟩ := wish_ite h
        simp only [Bool.not_eq_false', Bool.and_eq_true, List.isEmpty_iff] at hfl
        obtain ⟨fl, hi⟩ := hfl
        have rf := fill_bor w1.sta w1.sl w1.arg hf hi
        have s0 : Sta (withF Hf1 H1 F1) H1 [] := freeze_sta (rest := []) (by simpa using w1.sta)
        show spF K io (Φ f) (vs ++ []) H1 Q E
        rw [List.append_nil]
        refine ⟨withF Hf1 H1 F1, [], args, s0, RVs.of_RFs rf, ?_⟩
        rw [hr]
        rintro v H' Hf' F' g s' st' rv _
        have kp : ∀ a o, H1 a = some o → H' a = some o := fun a o e => st'.keep a o e (by simp)
        have ho : outs = [] := List.length_eq_zero_iff.mp (by rw [hl, hi]; rfl)
        subst ho
        rw [hi] at h
        have rfd : RF K Hf1 d v := flat_RF fl rv
        refine h v H' ⟨Hf1, F1, [], ⟨by simpa using w1.sta.nd, by simpa using w1.sta.off, fun a o e => kp a o (w1.sta.sub a o e)⟩, RSl.keep (Ext.refl _) _ _ _ w1.sl fun a ha => ?_, ?_, .inl ⟨rfl, RV.of_RF rfd⟩, fun z => ?_⟩
        · obtain ⟨o, e⟩ := w1.sl.tr a ha
          rw [e]; exact kp a o e
        · refine w1.step.trans ⟨fun _ _ e => e, fun a o e _ => kp a o e, fun a ha => .inl (by simpa using ha), fun _ _ e => .inl e⟩
        · obtain ⟨c1, c2, c3⟩ := w1.calm (by simpa only [CE.quiet] using z)
          exact ⟨c1, c2, fun a o e => kp a o (c3 a o e)⟩
      | false =>
        simp only [hb, Bool.false_and, Bool.false_eq_true, if_false] at h
        obtain ⟨hl, h⟩ := wish_ite h
        obtain ⟨Fa, rest, p1, p2, p3, p4⟩ := fill_run w1.arg hf hb hnd w1.sl fun _ _ => rfl
        have s1 := w1.sta.perm p1
        show spF K io (Φ f) (vs ++ []) H1 Q E
        rw [List.append_nil]
        refine ⟨Hf1, Fa, args, s1.less (List.sublist_append_left _ _), p2, ?_⟩
        rw [hr]
        rintro v H' Hf' F' g s' st' rv ⟨ws, pw, ro⟩
        obtain ⟨s2, e2⟩ := Step.by_ (g := rest) s1 p3.tracked st' s'
        have sl2 : RSl K Hf' H' (wipeS as.ios ρ1) σ rest := RSl.keep st'.ext _ _ _ p3 e2
        have hdef : ∀ i ∈ as.ios, (wipeS as.ios ρ1)[i]? = some none := fun i hi => by
          have hlt : i < ρ1.length := by
            obtain ⟨j, hj⟩ := List.getElem?_of_mem hi
            have hlen : (as.iopos 0).length = as.ios.length := iopos_len as 0
            obtain ⟨p, hp⟩ : ∃ p, (as.iopos 0)[j]? = some p := ⟨_, List.getElem?_eq_getElem (by have := (List.getElem?_eq_some_iff.mp hj).1; omega)⟩
            obtain ⟨w, _, hw⟩ := ios_at (pre := []) w1.arg j i p hj hp
            have := (List.getElem?_eq_some_iff.mp hw).1
            rw [w1.sl.length] at this
            exact this
          rw [wipeS_get, if_pos ⟨hi, hlt⟩]
        obtain ⟨F2, q1, q2⟩ := give_all hnd sl2 hdef (fun j i hj => by
          have hlen : (as.iopos 0).length = as.ios.length := iopos_len as 0
          obtain ⟨p, hp⟩ : ∃ p, (as.iopos 0)[j]? = some p := ⟨_, List.getElem?_eq_getElem (by have := (List.getElem?_eq_some_iff.mp hj).1; omega)⟩
          obtain ⟨w, a1, a2⟩ := ios_at (pre := []) w1.arg j i p hj hp
          rw [hio] at pw
          obtain ⟨w', b1, b2⟩ := pick_at pw j p hp
          have : vs[p]? = some w := by simpa using a1
          rw [b2] at this; cases this
          exact ⟨_, b1, a2⟩) hl ro
        rw [setAll_wipe hl] at q2
        have pF : ((F' ++ g) ++ rest).Perm (F2 ++ g) := by
          refine List.Perm.symm ((q1.append_right g).trans ?_)
          rw [List.append_assoc, List.append_assoc]
          exact List.Perm.append_left F' List.perm_append_comm
        refine h v H' ⟨Hf', F2, g, s2.perm pF, q2, ?_, .inl ⟨rfl, rv⟩, fun z => ?_⟩
        · exact (w1.step.trans (Step.left (st'.wide (g := rest)) fun a => (p1.mem_iff (a := a)).symm)).perm pF
        · have z : as.quiet = true := z
          have hi := quiet_ios z
          have hFa := p4 hi
          subst hFa
          obtain ⟨c1, c2, c3⟩ := w1.calm z
          have ho : outs = [] := List.length_eq_zero_iff.mp (by rw [hl, hi]; rfl)
          subst ho
          rw [hi]
          refine ⟨c1, fun a ha => q1.mem_iff.mpr (List.mem_append_right _ (by simpa using p1.mem_iff.mp (c2 a ha))), fun a o e => st'.keep a o (c3 a o e) (by simp)⟩
end
end Mini
set_option linter.all false
set_option maxRecDepth 10000
/-! M5: statements. -/
namespace Mini
open PySem PySem.Spec L2
/-- the slots that a statement may set -/
def CS.asgs : CS → List Nat
  | .skip => []
  | .seq a b => a.asgs ++ b.asgs
  | .asg i _ _ => [i]
  | .asgT is _ => is
  | .setp _ _ _ _ => []
  | .ex _ => []
  | .ret _ => []
  | .retN => []
  | .ifs _ a b => a.asgs ++ b.asgs
  | .for_ tg _ body _ => tg ++ body.asgs
  | .whl _ _ body _ => body.asgs
  | .brk => []
  | .cont => []
  | .bad => []
def Fr (as : List Nat) (σ σ' : L2.St) : Prop := σ'.length = σ.length ∧ ∀ j, j ∉ as → σ'[j]? = σ[j]?
theorem Fr.refl (as : List Nat) (σ : L2.St) : Fr as σ σ := ⟨rfl, fun _ _ => rfl⟩
theorem Fr.trans {as : List Nat} {σ σ1 σ2 : L2.St} (a : Fr as σ σ1) (b : Fr as σ1 σ2) : Fr as σ σ2 := ⟨b.1.trans a.1, fun j h => (b.2 j h).trans (a.2 j h)⟩
theorem Fr.mono {as bs : List Nat} {σ σ' : L2.St} (a : Fr as σ σ') (h : ∀ j ∈ as, j ∈ bs) : Fr bs σ σ' := ⟨a.1, fun j hj => a.2 j fun z => hj (h j z)⟩
theorem Fr.set {as : List Nat} {σ : L2.St} {i : Nat} {o : Option V} (h : i ∈ as) : Fr as σ (σ.set i o) := ⟨by simp, fun j hj => by rw [List.getElem?_set_ne fun e => hj (by rw [← e]; exact h)]⟩
/-- what is asked behind a statement -/
def EndS (K : PySem.W.Frag) (D : Ends) (Hf H : Hp) (F : List Addr) (σ : L2.St) (as : List Nat) : Rx Fl → Prop
  | .ok (.ret d) ρ' => ∀ v σ' H' Hf' F' f, Sta Hf' H' (F' ++ f) → RSl K Hf' H' ρ' σ' F' → Step Hf H F Hf' H' (F' ++ f) → RV K Hf' H' d v f → Fr as σ σ' → D.rt v H'
  | .ok .next ρ' => ∀ σ' H' Hf' F', Sta Hf' H' F' → RSl K Hf' H' ρ' σ' F' → Step Hf H F Hf' H' F' → Fr as σ σ' → D.nx σ' H'
  | .ok .brk ρ' => ∀ σ' H' Hf' F', Sta Hf' H' F' → RSl K Hf' H' ρ' σ' F' → Step Hf H F Hf' H' F' → Fr as σ σ' → D.bk σ' H'
  | .ok .cont ρ' => ∀ σ' H' Hf' F', Sta Hf' H' F' → RSl K Hf' H' ρ' σ' F' → Step Hf H F Hf' H' F' → Fr as σ σ' → D.ct σ' H'
  | _ => False
def tS (K : PySem.W.Frag) (Φ : Phi) (c : CS) : TS := fun D σ H => ∃ Hf F ρ, Sta Hf H F ∧ RSl K Hf H ρ σ F ∧ EndS K D Hf H F σ c.asgs (denS Φ c ρ)
section
variable {K : PySem.W.Frag} {Φ : Phi} {D : Ends} {σ : L2.St} {H : Hp}
/-- from a later state -/
theorem EndS.from {Hf H1 Hf1 : Hp} {F F1 : List Addr} {σ1 : L2.St} {as bs : List Nat} {r : Rx Fl} (h : EndS K D Hf H F σ bs r) (st : Step Hf H F Hf1 H1 F1) (fr : Fr bs σ σ1) (ha : ∀ j ∈ as, j ∈ bs) : EndS K D Hf1 H1 F1 σ1 as r := by
  cases r with
  | exc x e => exact h
  | stuck => exact h
  | ok fl ρ' =>
    cases fl with
    | ret d => exact fun v σ' H' Hf' F' f a b c d' e => h v σ' H' Hf' F' f a b (st.trans c) d' (fr.trans (e.mono ha))
    | next => exact fun σ' H' Hf' F' a b c e => h σ' H' Hf' F' a b (st.trans c) (fr.trans (e.mono ha))
    | brk => exact fun σ' H' Hf' F' a b c e => h σ' H' Hf' F' a b (st.trans c) (fr.trans (e.mono ha))
    | cont => exact fun σ' H' Hf' F' a b c e => h σ' H' Hf' F' a b (st.trans c) (fr.trans (e.mono ha))
theorem endS_bind {α : Type} {Hf : Hp} {F : List Addr} {as : List Nat} {r : Rx α} {k : α → Env → Rx Fl} (h : EndS K D Hf H F σ as (r.bind k)) : ∃ a e, r = .ok a e ∧ EndS K D Hf H F σ as (k a e) :=
  Rx.bind_ok (P := EndS K D Hf H F σ as) (fun _ _ h => h) (fun h => h) h
theorem im_skip (h : tS K Φ .skip D σ H) : tNext D σ H := by
  obtain ⟨Hf, F, ρ, s, sl, h⟩ := h
  simp only [denS] at h
  exact h σ H Hf F s sl (Step.refl _ _ _) (Fr.refl _ _)
theorem im_brk (h : tS K Φ .brk D σ H) : tBreak D σ H := by
  obtain ⟨Hf, F, ρ, s, sl, h⟩ := h
  simp only [denS] at h
  exact h σ H Hf F s sl (Step.refl _ _ _) (Fr.refl _ _)
theorem im_cont (h : tS K Φ .cont D σ H) : tCont D σ H := by
  obtain ⟨Hf, F, ρ, s, sl, h⟩ := h
  simp only [denS] at h
  exact h σ H Hf F s sl (Step.refl _ _ _) (Fr.refl _ _)
theorem im_retN (h : tS K Φ .retN D σ H) : tRetN D σ H := by
  obtain ⟨Hf, F, ρ, s, sl, h⟩ := h
  simp only [denS] at h
  exact h .non σ H Hf F [] (by simpa using s) sl (by simpa using Step.refl Hf H F) RV.non_ (Fr.refl _ _)
theorem im_seq {a b : CS} (h : tS K Φ (.seq a b) D σ H) : tSeq (tS K Φ a) (tS K Φ b) D σ H := by
  obtain ⟨Hf, F, ρ, s, sl, h⟩ := h
  refine ⟨Hf, F, ρ, s, sl, ?_⟩
  simp only [denS] at h
  have hm : ∀ j ∈ a.asgs, j ∈ (CS.seq a b).asgs := fun j hj => List.mem_append_left _ hj
  cases q : denS Φ a ρ with
  | exc x e => rw [q] at h; exact h
  | stuck => rw [q] at h; exact h
  | ok fl ρ' =>
    rw [q] at h
    cases fl with
    | next =>
      exact fun σ' H' Hf' F' p1 p2 p3 p4 => ⟨Hf', F', ρ', p1, p2, EndS.from h p3 (p4.mono hm) fun j hj => List.mem_append_right _ hj⟩
    | ret d => exact fun v σ' H' Hf' F' f p1 p2 p3 p4 p5 => h v σ' H' Hf' F' f p1 p2 p3 p4 (p5.mono hm)
    | brk => exact fun σ' H' Hf' F' p1 p2 p3 p4 => h σ' H' Hf' F' p1 p2 p3 (p4.mono hm)
    | cont => exact fun σ' H' Hf' F' p1 p2 p3 p4 => h σ' H' Hf' F' p1 p2 p3 (p4.mono hm)
theorem PstW.owned {Hf H H' Hf' : Hp} {F F' f : List Addr} {ρ ρ' : Env} {q : Bool} {x : Vt} {v : V} (h : PstW K Hf H F ρ σ q x ρ' v H' Hf' F' f) (ht : x.t = false) : RV K Hf' H' x.d v f := by
  rcases h.own with ⟨_, h⟩ | ⟨h, _⟩
  · exact h
  · rw [ht] at h; cases h
/-- as it is, or frozen -/
theorem PstW.held {Hf H H' Hf' : Hp} {F F' f : List Addr} {ρ ρ' : Env} {q : Bool} {x : Vt} {v : V} (own : Bool) (w : PstW K Hf H F ρ σ q x ρ' v H' Hf' F' f) (ht : x.t = false) :
    ∃ Hf2 f2, Sta Hf2 H' (F' ++ f2) ∧ RSl K Hf2 H' ρ' σ F' ∧ Step Hf H F Hf2 H' (F' ++ f2) ∧ RV K Hf2 H' (if own then x.d else x.d.frz) v f2 := by
  have o := w.owned ht
  cases own with
  | true => exact ⟨Hf', f, w.sta, w.sl, w.step, o⟩
  | false => exact ⟨withF Hf' H' f, [], by simpa using freeze_sta w.sta, RSl.keep (.of withT_old) _ _ _ w.sl fun _ _ => rfl, by simpa using w.step.trans freeze_step, RV.of_RF (frz_freeze w.sta o)⟩
/-- a slot is set -/
theorem put_sta {Hf H : Hp} {F f : List Addr} {ρ : Env} {i : Nat} {d : Mini.D} {v : V} (s : Sta Hf H (F ++ f)) (sl : RSl K Hf H ρ σ F) (hi : i < ρ.length) (r : RV K Hf H d v f) :
    ∃ F', Sta Hf H F' ∧ RSl K Hf H (ρ.set i (some d)) (σ.set i (some v)) F' ∧ ∀ a ∈ F', a ∈ F ++ f := by
  obtain ⟨p, q, F', rfl, hs, h⟩ := sl.put i hi r
  have hp : (p ++ f ++ q).Perm ((p ++ q) ++ f) := by
    rw [List.append_assoc, List.append_assoc]
    exact List.Perm.append_left p List.perm_append_comm
  have s2 : Sta Hf H ((p ++ q) ++ f) := s.less (List.Sublist.append hs (List.Sublist.refl f))
  refine ⟨p ++ f ++ q, s2.perm hp.symm, h, fun a ha => ?_⟩
  rcases List.mem_append.mp (hp.mem_iff.mp ha) with h | h
  · exact List.mem_append_left _ (hs.subset h)
  · exact List.mem_append_right _ h
theorem im_asg {i : Nat} {own : Bool} {e : CE} (h : tS K Φ (.asg i own e) D σ H) : tAsg (tE K Φ e) (gName i) D σ H := by
  obtain ⟨Hf, F, ρ, s, sl, h⟩ := h
  simp only [denS] at h
  obtain ⟨x, ρ1, e1, h⟩ := endS_bind h
  refine tE_run s sl e1 fun v H1 Hf1 F1 f1 w1 => ?_
  cases ht : x.t with
  | true => simp only [ht, if_true] at h; exact False.elim h
  | false =>
    simp only [ht, Bool.false_eq_true, if_false] at h
    split at h
    · rename_i hi
      obtain ⟨Hf2, f2, s2, sl2, st2, r2⟩ := w1.held own ht
      obtain ⟨F3, s3, sl3, m3⟩ := put_sta s2 sl2 hi r2
      exact h _ H1 Hf2 F3 s3 sl3 (st2.mono m3) (Fr.set (List.mem_singleton.mpr rfl))
    · exact False.elim h
theorem go_any {Hf H : Hp} {σ0 : L2.St} {as : List Nat} {P : L2.St → Hp → Prop} : ∀ {is : List Nat} {xs : List Mini.D} {vs : List V} {ρ ρ1 : Env} {σ : L2.St} {F : List Addr}, bindT.go is xs ρ = some ρ1 → is.length = xs.length → RFs K Hf xs vs → Sta Hf H F → RSl K Hf H ρ σ F → Fr as σ0 σ → (∀ i ∈ is, i ∈ as) →
    (∀ σ1 F1, Sta Hf H F1 → RSl K Hf H ρ1 σ1 F1 → Fr as σ0 σ1 → (∀ a ∈ F1, a ∈ F) → P σ1 H) → gNames is vs σ H P
  | [], [], vs, ρ, ρ1, σ, F, h, _, hr, s, sl, fr, hm, q => by
    simp only [RFs] at hr
    simp only [bindT.go, Option.some.injEq] at h
    subst h hr
    exact ⟨rfl, q σ F s sl fr fun _ h => h⟩
  | [], _ :: _, vs, ρ, ρ1, σ, F, h, hl, hr, s, sl, fr, hm, q => by simp at hl
  | _ :: _, [], vs, ρ, ρ1, σ, F, h, hl, hr, s, sl, fr, hm, q => by simp at hl
  | i :: is, x :: xs, vs, ρ, ρ1, σ, F, h, hl, hr, s, sl, fr, hm, q => by
    simp only [RFs] at hr
    obtain ⟨v, r, rfl, h1, h2⟩ := hr
    simp only [bindT.go] at h
    split at h
    · rename_i hi
      obtain ⟨F2, s2, sl2, m2⟩ := put_sta (f := []) (by simpa using s) sl hi (RV.of_RF h1)
      refine ⟨v, r, rfl, go_any h (by simpa using hl) h2 s2 sl2 (fr.trans (Fr.set (hm i List.mem_cons_self))) (fun j hj => hm j (List.mem_cons_of_mem _ hj)) fun σ1 F1 a b c d => q σ1 F1 a b c fun z hz => by simpa using m2 z (d z hz)⟩
    · cases h
theorem im_asgT {is : List Nat} {e : CE} (h : tS K Φ (.asgT is e) D σ H) : tAsg (tE K Φ e) (gTup K is.length (gNames is)) D σ H := by
  obtain ⟨Hf, F, ρ, s, sl, h⟩ := h
  simp only [denS] at h
  obtain ⟨x, ρ1, e1, h⟩ := endS_bind h
  refine tE_run s sl e1 fun v H1 Hf1 F1 f1 w1 => ?_
  cases ht : x.t with
  | true => simp only [ht, if_true] at h; exact False.elim h
  | false =>
    simp only [ht, Bool.false_eq_true, if_false] at h
    split at h
    · rename_i xs ex
      split at h
      · rename_i ρ2 hg
        split at h
        · rename_i hl
          have o := w1.own.opd
          obtain ⟨a, vs, rfl, h1, h2⟩ : ∃ a vs, v = .ref a ∧ SqT K H1 a vs ∧ RFs K Hf1 xs vs := by
            cases ed : x.d <;> rw [ed] at ex <;> simp only [tupItems] at ex <;> try (cases ex; done)
            · cases ex
              rw [ed] at o
              obtain ⟨a, vs, e1, e2, e3⟩ := o.tup
              exact ⟨a, vs, e1, e2.sq w1.sta.sub, e3⟩
            · cases ex
              rw [ed] at o
              obtain ⟨a, vs, e1, e2, e3⟩ := o.raw
              exact ⟨a, vs, e1, .inl (.inl (w1.sta.sub _ _ e2)), e3⟩
          refine ⟨a, vs, rfl, h1, by rw [h2.length, hl], go_any hg hl h2 w1.less w1.sl (Fr.refl _ _) (fun i hi => hi) fun σ1 F2 a b c d => h σ1 H1 Hf1 F2 a b (w1.st1.mono d) c⟩
        · exact False.elim h
      · exact False.elim h
    · exact False.elim h
theorem im_ex {e : CE} (h : tS K Φ (.ex e) D σ H) : tDrop (tE K Φ e) D σ H := by
  obtain ⟨Hf, F, ρ, s, sl, h⟩ := h
  simp only [denS] at h
  obtain ⟨x, ρ1, e1, h⟩ := endS_bind h
  exact tE_run s sl e1 fun v H1 Hf1 F1 f1 w1 => h σ H1 Hf1 F1 w1.less w1.sl w1.st1 (Fr.refl _ _)
theorem im_ret {e : CE} (h : tS K Φ (.ret e) D σ H) : tRet (tE K Φ e) D σ H := by
  obtain ⟨Hf, F, ρ, s, sl, h⟩ := h
  simp only [denS] at h
  obtain ⟨x, ρ1, e1, h⟩ := endS_bind h
  refine tE_run s sl e1 fun v H1 Hf1 F1 f1 w1 => ?_
  cases ht : x.t with
  | true => simp only [ht, if_true] at h; exact False.elim h
  | false =>
    simp only [ht, Bool.false_eq_true, if_false] at h
    exact h v σ H1 Hf1 F1 f1 w1.sta w1.sl w1.step (w1.owned ht) (Fr.refl _ _)
theorem boolOf_ok {r : Rx Vt} {b : Bool} {ρ' : Env} (h : boolOf r = .ok b ρ') : ∃ x, r = .ok x ρ' ∧ x.d = .bl b := by
  unfold boolOf at h
  cases r with
  | ok x e =>
    simp only [Rx.bind] at h
    split at h
    · rename_i c ec
      cases h
      exact ⟨x, rfl, ec⟩
    · cases h
  | exc x e => cases h
  | stuck => cases h
theorem im_ifs {c : CE} {a b : CS} (h : tS K Φ (.ifs c a b) D σ H) : tIfS (tT K Φ c) (tS K Φ a) (tS K Φ b) D σ H := by
  obtain ⟨Hf, F, ρ, s, sl, h⟩ := h
  simp only [denS] at h
  obtain ⟨k, ρ1, e1, h⟩ := endS_bind h
  obtain ⟨x, e2, e3⟩ := boolOf_ok e1
  refine tT_run s sl e2 e3 fun H1 Hf1 F1 p1 p2 p3 p4 => ?_
  cases k with
  | true =>
    rw [if_pos rfl] at h ⊢
    exact ⟨Hf1, F1, ρ1, p1, p2, EndS.from h p3 (Fr.refl _ _) fun j hj => List.mem_append_left _ hj⟩
  | false =>
    rw [if_neg (by decide)] at h ⊢
    exact ⟨Hf1, F1, ρ1, p1, p2, EndS.from h p3 (Fr.refl _ _) fun j hj => List.mem_append_right _ hj⟩
/-- d[k] = v, l[i] = v at a place -/
theorem im_setp {own : Bool} {p : CP} {k e : CE} (h : tS K Φ (.setp own p k e) D σ H) : tAsg (tE K Φ e) (gSub (tP K Φ p) (tE K Φ k) (rSetD K)) D σ H := by
  obtain ⟨Hf, F, ρ, s, sl, h⟩ := h
  simp only [denS] at h
  obtain ⟨x, ρ1, e1, h⟩ := endS_bind h
  refine tE_run s sl e1 fun v H1 Hf1 F1 f1 w1 => ?_
  cases ht : x.t with
  | true => simp only [ht, if_true] at h; exact False.elim h
  | false =>
    simp only [ht, Bool.false_eq_true, if_false] at h
    cases hq : (p.quiet && k.quiet) with
    | false => simp only [hq, Bool.not_false, if_true] at h; exact False.elim h
    | true =>
      simp only [hq, Bool.not_true, Bool.false_eq_true, if_false] at h
      rw [Bool.and_eq_true] at hq
      obtain ⟨ks, ρ2, e2, h⟩ := endS_bind h
      obtain ⟨y, ρ3, e3, hh⟩ := endS_bind h
      obtain ⟨Hf2, f2, s2, sl2, st2, r2⟩ := w1.held own ht
      refine tP_run (s2.less (List.sublist_append_left _ _)) sl2 e2 fun o H3 Hf3 F3 w3 => ?_
      have tr2 : ∀ a ∈ f2, ∃ o, H1 a = some o ∧ Mut (some o) := RV.tracked _ _ _ r2
      obtain ⟨s3, k3⟩ := Step.by_ s2 tr2 w3.step w3.sta
      have r3 := RV.keep w3.step.ext _ _ _ r2 k3
      refine tE_run w3.sta w3.sl e3 fun u H4 Hf4 F4 f4 w4 => ?_
      obtain ⟨s4, k4⟩ := Step.by_ s3 (RV.tracked _ _ _ r3) w4.step w4.sta
      have r4 := RV.keep w4.step.ext _ _ _ r3 k4
      obtain ⟨c1, c2, c3⟩ := w4.calm hq.2
      subst c1
      have st4 : Step Hf H F Hf4 H4 (F4 ++ f2) := ((st2.trans w3.step.wide).trans w4.step.wide).mono fun a ha => by
        rcases List.mem_append.mp ha with h | h
        · exact List.mem_append_left _ (List.mem_append_left _ h)
        · exact List.mem_append_right _ h
      cases qu : ((getS ρ3 p.root).bind fun d => updAt (fSetIx y.d (if own then x.d else x.d.frz)) ks d) with
      | none => rw [qu] at hh; exact False.elim hh
      | some r =>
        obtain ⟨r0, d'⟩ := r
        rw [qu] at hh
        obtain ⟨d2, b1, b2⟩ := Option.bind_eq_some_iff.mp qu
        obtain ⟨d, w, c, fd, a1, a2, a3, a4, a5, a6⟩ := w3.at_
        rw [a1] at b1; cases b1
        obtain ⟨w0, g, rest, t1, t2, t3, t4⟩ := w4.sl.take a1
        rw [a2] at t1; cases t1
        obtain ⟨c2', c', gs, rest2, p1, p2, p3, p4⟩ := tree_focus t3 (a3.keep c3) b2
        have s4' : Sta Hf4 H4 (F4 ++ f2) := s4.less (List.Sublist.append (List.sublist_append_left F4 f4) (List.Sublist.refl f2))
        have pG : (F4 ++ f2).Perm (gs ++ (f2 ++ (rest2 ++ rest))) := by
          have x1 : F4.Perm (gs ++ (rest2 ++ rest)) := t2.trans (by rw [← List.append_assoc]; exact p3.append_right rest)
          refine (x1.append_right f2).trans ?_
          rw [List.append_assoc]
          exact (List.perm_append_comm (l₁ := rest2 ++ rest) (l₂ := f2)).append_left gs
        have nd : (gs ++ f2).Nodup := by
          have := pG.nodup_iff.mp s4'.nd
          rw [← List.append_assoc] at this
          exact (List.nodup_append.mp this).1
        refine ⟨Hf4, c2', y.d, _, gs, f2, r0, c', s4'.sub, nd, p2, w4.own.opd, r4, p1, fun H' gs' mr => ?_⟩
        obtain ⟨s5, st5, k5⟩ := mut_sta s4' pG mr
        obtain ⟨g', r1, r2'⟩ := p4 Hf4 H' gs' (Ext.refl _) (fun b hb => k5 b (List.mem_append_left _ hb)) mr.tree
        have sl5 : RSl K Hf4 H' (ρ3.set p.root none) σ rest := RSl.keep (Ext.refl _) _ _ _ t4 fun b hb => k5 b (List.mem_append_right _ hb)
        obtain ⟨F', q1, q2⟩ := sl5.give (set_none_at (getS_lt a1)) a2 r2'
        rw [set_set] at q2
        have pF : ((gs' ++ []) ++ (rest2 ++ rest)).Perm F' := by
          have x1 : F'.Perm (gs' ++ (rest2 ++ rest)) := q1.trans (by rw [← List.append_assoc]; exact r1.append_right rest)
          simpa using x1.symm
        exact hh σ H' Hf4 F' (s5.perm pF) q2 ((st4.trans st5).perm pF) (Fr.refl _ _)
/-! ### loops -/
theorem RSl.forgets {Hf H : Hp} {σ : L2.St} : ∀ {is : List Nat} {ρ : Env} {F : List Addr}, RSl K Hf H ρ σ F → ∃ F', F'.Sublist F ∧ RSl K Hf H (wipeS is ρ) σ F'
  | [], ρ, F, h => ⟨F, List.Sublist.refl _, h⟩
  | i :: is, ρ, F, h => by
    obtain ⟨F1, h1, h2⟩ := h.forget i
    obtain ⟨F2, h3, h4⟩ := RSl.forgets (is := is) h2
    exact ⟨F2, h3.trans h1, h4⟩
theorem okS_app (tg clr : List Nat) (ρ : Env) : okS tg (wipeS (tg ++ clr) ρ) = true := okS_iff.mpr fun i hi => (okS_iff.mp (okS_wipe (tg ++ clr) ρ)) i (List.mem_append_left _ hi)
theorem im_for {tg : List Nat} {it : CI} {body : CS} {clr : List Nat} (h : tS K Φ (.for_ tg it body clr) D σ H) : tFor (tI K Φ it) (gT K tg) (tS K Φ body) D σ H := by
  obtain ⟨Hf, F, ρ, s, sl, h⟩ := h
  simp only [denS] at h
  obtain ⟨xs, ρ1, e1, h⟩ := endS_bind h
  cases ht : xs.t with
  | true => simp only [ht, if_true] at h; exact False.elim h
  | false =>
    simp only [ht, Bool.false_eq_true, if_false] at h
    refine tI_iff.mpr ⟨Hf, F, ρ, s, sl, ?_⟩
    rw [e1]
    rintro J H1 ⟨Hf1, F1, w1⟩
    generalize hst : (fun x ρ => match bindT tg x ρ with | some ρ1 => denS Φ body ρ1 | none => Rx.stuck) = step at h
    have hm : ∀ j ∈ body.asgs, j ∈ (CS.for_ tg it body clr).asgs := fun j hj => List.mem_append_right _ hj
    have hm2 : ∀ j ∈ tg, j ∈ (CS.for_ tg it body clr).asgs := fun j hj => List.mem_append_left _ hj
    let as := (CS.for_ tg it body clr).asgs
    let Pv : Nat → L2.St → Hp → Prop := fun i σ' H' => ∃ Hf' F' ρ', Sta Hf' H' F' ∧ RSl K Hf' H' ρ' σ' F' ∧ Step Hf1 H1 F1 Hf' H' F' ∧ Fr as σ σ' ∧ okS tg ρ' = true ∧ EndS K D Hf H F σ as (forL step (wipeS (tg ++ clr)) (xs.d.drop i) ρ')
    have stay : ∀ i σ' H', Pv i σ' H' → Stay xs.t Hf1 H1 H' := fun i σ' H' ⟨Hf', F', ρ', a, b, c, _⟩ => ⟨(fun z => by rw [ht] at z; cases z), fun _ x o e => a.sub x o (c.hf x o e)⟩
    have W : Walk J xs.d.length (fun H => Stay xs.t Hf1 H1 H) (fun i H x H' => Stay xs.t Hf1 H1 H ∧ J.yld i H x H') :=
      ⟨fun i H hi hg => w1.walk.goes i H hi hg, fun H hg => w1.walk.stops H hg, fun i H x H' hi hg y => ⟨hg, y⟩⟩
    refine for_it W Pv ?_ (fun i σ' H' _ p => stay i σ' H' p) ?_ ?_
    · obtain ⟨F2, q1, q2⟩ := RSl.forgets (is := tg ++ clr) w1.sl
      exact ⟨Hf1, F2, _, w1.sta.less q1, q2, (Step.refl _ _ _).mono fun a ha => q1.subset ha, Fr.refl _ _, okS_app _ _ _, h⟩
    · rintro i x σ' H' H2 hi ⟨Hf', F', ρ', p1, p2, p3, p4, p5, p6⟩ ⟨hg, hy⟩
      obtain ⟨d, hd, hr⟩ := w1.walk.yields i H' x H2 Hf' hi hg p1.sub p3.hf hy
      have hdp : d.pure = true := List.all_eq_true.mp w1.pure d (List.mem_of_getElem? hd)
      obtain ⟨Hf2, rf, st2, sb2, k2⟩ := hr.step hdp
      obtain ⟨s2, e2⟩ := Step.by_ (F := []) (g := F') (by simpa using p1) p2.tracked st2 ⟨List.nodup_nil, (fun a ha => nomatch ha), sb2⟩
      have s2 : Sta Hf2 H2 F' := by simpa using s2
      have sl2 : RSl K Hf2 H2 ρ' σ' F' := RSl.keep st2.ext _ _ _ p2 e2
      have st2' : Step Hf1 H1 F1 Hf2 H2 F' := p3.trans (by simpa using st2.wide (g := F'))
      have hdrop : xs.d.drop i = d :: xs.d.drop (i + 1) := by
        rw [List.drop_eq_getElem_cons hi]
        have := List.getElem?_eq_getElem hi
        rw [hd] at this
        rw [← Option.some.inj this]
      rw [hdrop] at p6
      simp only [forL] at p6
      have hs := congrFun (congrFun hst d) ρ'
      cases hb : bindT tg d ρ' with
      | none => rw [hb] at hs; simp only at hs; rw [← hs] at p6; exact False.elim p6
      | some ρb =>
        rw [hb] at hs
        simp only at hs
        rw [← hs] at p6
        refine bind_run hb rf sb2 sl2 p5 fun σ1 b => ⟨Hf2, F', ρb, s2, b.sl, ?_⟩
        have fr1 : Fr as σ σ1 := p4.trans ⟨b.len, fun j hj => b.old j fun z => hj (hm2 j z)⟩
        -- on to the next turn
        have next : ∀ (ρ2 : Env), EndS K D Hf H F σ as (forL step (wipeS (tg ++ clr)) (xs.d.drop (i + 1)) (wipeS (tg ++ clr) ρ2)) → ∀ σ2 H3 Hf3 F3, Sta Hf3 H3 F3 → RSl K Hf3 H3 ρ2 σ2 F3 → Step Hf2 H2 F' Hf3 H3 F3 → Fr body.asgs σ1 σ2 → Pv (i + 1) σ2 H3 := by
          intro ρ2 hE σ2 H3 Hf3 F3 a1 a2 a3 a4
          obtain ⟨F4, q1, q2⟩ := RSl.forgets (is := tg ++ clr) a2
          exact ⟨Hf3, F4, _, a1.less q1, q2, (st2'.trans a3).mono fun a ha => q1.subset ha, fr1.trans (a4.mono hm), okS_app _ _ _, hE⟩
        cases hbody : denS Φ body ρb with
        | exc x e => rw [hbody] at p6; exact False.elim p6
        | stuck => rw [hbody] at p6; exact False.elim p6
        | ok fl ρ2 =>
          rw [hbody] at p6
          cases fl with
          | next => exact next ρ2 p6
          | cont => exact next ρ2 p6
          | brk =>
            intro σ2 H3 Hf3 F3 a1 a2 a3 a4
            obtain ⟨F4, q1, q2⟩ := RSl.forgets (is := tg ++ clr) a2
            exact p6 σ2 H3 Hf3 F4 (a1.less q1) q2 ((w1.step.trans (st2'.trans a3)).mono fun a ha => q1.subset ha) (fr1.trans (a4.mono hm))
          | ret dd =>
            intro v σ2 H3 Hf3 F3 f a1 a2 a3 a5 a4
            exact p6 v σ2 H3 Hf3 F3 f a1 a2 (w1.step.trans (st2'.trans a3)) a5 (fr1.trans (a4.mono hm))
    · rintro σ' H' ⟨Hf', F', ρ', p1, p2, p3, p4, p5, p6⟩
      rw [List.drop_length] at p6
      simp only [forL] at p6
      exact p6 σ' H' Hf' F' p1 p2 (w1.step.trans p3) p4
theorem im_whl {m : Env → Nat} {c : CE} {body : CS} {clr : List Nat} (h : tS K Φ (.whl m c body clr) D σ H) : tWhile (tT K Φ c) (tS K Φ body) D σ H := by
  obtain ⟨Hf, F, ρ, s, sl, h⟩ := h
  simp only [denS] at h
  let as := (CS.whl m c body clr).asgs
  refine ⟨fun n σ' H' => ∃ Hf' F' ρ', Sta Hf' H' F' ∧ RSl K Hf' H' ρ' σ' F' ∧ Step Hf H F Hf' H' F' ∧ Fr as σ σ' ∧ EndS K D Hf H F σ as (whlL (fun ρ => boolOf (den Φ c ρ)) (fun ρ => denS Φ body ρ) (wipeS clr) n ρ'), ⟨m ρ, ?_⟩, ?_⟩
  · obtain ⟨F2, q1, q2⟩ := RSl.forgets (is := clr) sl
    exact ⟨Hf, F2, _, s.less q1, q2, (Step.refl _ _ _).mono fun a ha => q1.subset ha, Fr.refl _ _, h⟩
  · rintro n σ' H' ⟨Hf', F', ρ', p1, p2, p3, p4, p5⟩
    cases n with
    | zero => exact False.elim p5
    | succ n =>
      simp only [whlL] at p5
      cases hc : boolOf (den Φ c ρ') with
      | exc x e => rw [hc] at p5; exact False.elim p5
      | stuck => rw [hc] at p5; exact False.elim p5
      | ok k ρ1 =>
        rw [hc] at p5
        obtain ⟨x, e2, e3⟩ := boolOf_ok hc
        refine tT_run p1 p2 e2 e3 fun H1 Hf1 F1 r1 r2 r3 _ => ?_
        cases k with
        | false =>
          rw [if_neg (by decide)]
          exact p5 σ' H1 Hf1 F1 r1 r2 (p3.trans r3) p4
        | true =>
          rw [if_pos rfl]
          simp only at p5
          refine ⟨fun σ2 H2 => ∃ Hf2 F2 ρ2, Sta Hf2 H2 F2 ∧ RSl K Hf2 H2 ρ2 σ2 F2 ∧ Step Hf H F Hf2 H2 F2 ∧ Fr as σ σ2 ∧ EndS K D Hf H F σ as (whlL (fun ρ => boolOf (den Φ c ρ)) (fun ρ => denS Φ body ρ) (wipeS clr) n ρ2), fun σ2 H2 z => ⟨n, Nat.lt_succ_self n, z⟩, Hf1, F1, ρ1, r1, r2, ?_⟩
          cases hbody : denS Φ body ρ1 with
          | exc x e => rw [hbody] at p5; exact False.elim p5
          | stuck => rw [hbody] at p5; exact False.elim p5
          | ok fl ρ2 =>
            rw [hbody] at p5
            have next : EndS K D Hf H F σ as (whlL (fun ρ => boolOf (den Φ c ρ)) (fun ρ => denS Φ body ρ) (wipeS clr) n (wipeS clr ρ2)) → ∀ σ2 H3 Hf3 F3, Sta Hf3 H3 F3 → RSl K Hf3 H3 ρ2 σ2 F3 → Step Hf1 H1 F1 Hf3 H3 F3 → Fr body.asgs σ' σ2 →
                ∃ Hf2 F2 ρ2, Sta Hf2 H3 F2 ∧ RSl K Hf2 H3 ρ2 σ2 F2 ∧ Step Hf H F Hf2 H3 F2 ∧ Fr as σ σ2 ∧ EndS K D Hf H F σ as (whlL (fun ρ => boolOf (den Φ c ρ)) (fun ρ => denS Φ body ρ) (wipeS clr) n ρ2) := by
              intro hE σ2 H3 Hf3 F3 a1 a2 a3 a4
              obtain ⟨F4, q1, q2⟩ := RSl.forgets (is := clr) a2
              exact ⟨Hf3, F4, _, a1.less q1, q2, ((p3.trans r3).trans a3).mono fun a ha => q1.subset ha, p4.trans a4, hE⟩
            cases fl with
            | next => exact next p5
            | cont => exact next p5
            | brk =>
              intro σ2 H3 Hf3 F3 a1 a2 a3 a4
              obtain ⟨F4, q1, q2⟩ := RSl.forgets (is := clr) a2
              exact p5 σ2 H3 Hf3 F4 (a1.less q1) q2 (((p3.trans r3).trans a3).mono fun a ha => q1.subset ha) (p4.trans a4)
            | ret dd =>
              intro v σ2 H3 Hf3 F3 f a1 a2 a3 a5 a4
              exact p5 v σ2 H3 Hf3 F3 f a1 a2 ((p3.trans r3).trans a3) a5 (p4.trans a4)
end
end Mini
set_option linter.all false
set_option maxRecDepth 100000
/-! M6a: defs, calls, the head, where no guard is up (repr asks that). -/
namespace Mini
open PySem PySem.Spec PyProof.Rows L2
abbrev CXN : CXT := fun _ _ _ _ _ _ => False
/-- a def's promise, where no guard is up -/
structure FnG (P : Program) (w : World) (K : PySem.W.Frag) (mg : Str → Option Value) (base : Heap) (k : Nat) (fa : Addr) (fd : FuncData) (ps : List Str) (sp : Sp) : Prop where
  len : ∀ xs H Q E, sp xs H Q E → xs.length = ps.length
  run : ∀ (A : Around) (out : List PySem.Env) (s : Shared) (H : Hp) (args : Args) (us : List Value) (xs : List V) (Q : VK) (E : XK), Room k A → A.guards = some [] → Env0 P w K mg base A out s H → BindsTo s fd args (ps.zip us) → Vals xs us → sp xs H Q E →
    codeAny (model P w) A (.call (.ref fa) args) (CR CXN out P w H s Q E) s
theorem FnG.mono {P : Program} {w : World} {K : PySem.W.Frag} {mg : Str → Option Value} {base : Heap} {j k : Nat} {fa : Addr} {fd : FuncData} {ps : List Str} {sp : Sp} (F : FnG P w K mg base j fa fd ps sp) (h : j ≤ k) : FnG P w K mg base k fa fd ps sp :=
  ⟨F.len, fun A out s H args us xs Q E hr hg => F.run A out s H args us xs Q E (hr.mono h) hg⟩
section
variable {X : Cx} {k : Nat} {fa : Addr} {fd : FuncData} {ps : List Str} {sp : Sp} {x : Str} {p pos : Pos} {e : Expr} {es : List Expr} {t : TA}
theorem run_G {pins : List (Addr × Obj)} {σ : L2.St} {H : Hp} {s : Shared} {Q : VK} {E : XK} {us : List Value} {xs : List V} (F : FnG X.prog X.w X.K X.mg X.base k fa fd ps sp) (hr : Room k X.A) (hg : X.A.guards = some []) (hb : Binds X.K fd ps []) (I : L2.Inv X pins σ H s) (r : Vals xs us) (h : sp xs H Q E) :
    wpAny (model X.prog X.w) X.A (call (.ref fa) us) (EP X pins σ Q) X.xe s := by
  have len1 : (us ++ []).length = ps.length := by rw [List.append_nil, ← r.length]; exact F.len _ _ _ _ h
  have bnd := hb s us I.kIn len1
  rw [List.append_nil] at bnd
  refine wpAny_call (codeAny_mono (F.run X.A X.stack s H ⟨us, []⟩ us xs Q E hr hg I.env0 bnd r h) fun res s2 told => ?_)
  match res, told with
  | .error _, told => exact False.elim told
  | .ok (.ret _), told => exact I.after told
  | .ok .next, told => exact False.elim told
  | .ok .brk, told => exact False.elim told
  | .ok .cont, told => exact False.elim told
theorem pe_callG {E : XK} (F : FnG X.prog X.w X.K X.mg X.base k fa fd ps sp) (hr : Room k X.A) (hgu : X.A.guards = some []) (hg : Gl X x) (hm : X.mg x = some (.ref fa)) (hk : PySem.W.keepIn X.K (.ref fa) = true) (hb : Binds X.K fd ps []) (ha : PA X (e :: es) t)
    (hdb : (x == ("__debug__" : Str)) = false) (he : starEach (e :: es) X.env = (false, eval e X.env) :: starEach es X.env) (hpl : (backTo pos (starEach es X.env)).any (·.1) = false) : PE X (.Call (.Name x p) (e :: es) [] pos) (tCall sp [] E t) := by
  refine ⟨fun pins s σ H Q I q => wpAny_Call_Name_kw (ld_glob I hg hm ?_ hdb)⟩
  refine PySem.W.callWith_K (h₀ := X.base) I.ok.mod.kin hk (thn (ha.run pos pins s σ H _ I q) fun us s1 told => ?_) he hpl
  obtain ⟨xs, H1, I1, r1, q1⟩ := told
  have q1 : sp (xs ++ []) H1 Q E := q1
  rw [List.append_nil] at q1
  exact ⟨I1.kIn, run_G F hr hgu hb I1 r1 q1⟩
/-- a def, by its body -/
theorem FunD.okG {P : Program} {w : World} {K : PySem.W.Frag} {mg : Str → Option Value} {base : Heap} {qual : Str} {params : Arguments} {body : List Stmt} {scope : Scope} {dvs : List V} {kws : List (Str × V)} {N : List Str} (F : FunD K x qual params body scope dvs kws fa fd) (S : FnScope N ps scope)
    (len : ∀ xs H Q E, sp xs H Q E → xs.length = ps.length)
    (bod : ∀ (cd : Value) (A : Around) (out : List PySem.Env) (s : Shared) (H : Hp) (xs : List V) (Q : VK) (E : XK), Room k (A.deeper (envOfC qual scope s.heap.objs.size fa cd)) → A.guards = some [] → sp xs H Q E →
      ∃ t, PSs (cxOf CXN P w K mg base N qual scope fa cd A out s H E) body t ∧ t { nx := fun _ H' => Q .non H', rt := Q } (start N xs) H) : FnG P w K mg base (k + 1) fa fd ps sp := by
  obtain ⟨oc, od, dV, kV, doc, pm, an, cd, ct, osl, rfl, lk, hcd, _, _⟩ := F.ex
  refine ⟨len, fun A out s H args us xs Q E hr hg e0 hb rel hsp => ?_⟩
  have hlen := len _ _ _ _ hsp
  have KI : K.In s.heap := e0.mod.kin.keeps fun b o q => (e0.bs b o q).1
  have nolim : s.heap.NoLimit := e0.mod.nolimit.keeps fun b o q => (e0.bs b o q).1
  have kinds : ∀ y ∈ ps.zip us, scope.names.lookup y.1 = some .local ∨ (scope.names.lookup y.1 = some .cell ∧ ((cellsFrom (s.heap.objs.size + 1) scope.names []).lookup y.1).isSome = true) := fun y hy => by
    have hp := (List.of_mem_zip (show (y.1, y.2) ∈ ps.zip us from hy)).1
    exact (S.par y.1 hp).imp id fun q => ⟨q, PySem.W.cellsFrom_some _ _ _ (.inl q)⟩
  refine codeAny_call_function hr.depth (KI _ _ lk) rfl S.co S.gen rfl (PySem.W.codeRec_of KI hcd) (hb _ _ _ _ (wpAny_newFunctionEnv_cells S.kind kinds fun env he s1 inc => ?_))
  subst he
  refine ⟨nolim.keeps inc.toInCall.keep, codeAny_func ?_⟩
  obtain ⟨t, ht, hq⟩ := bod cd A out s H xs Q E (hr.deeper _) hg hsp
  have I : L2.Inv (cxOf CXN P w K mg base N qual scope fa cd A out s H E) [] (start N xs) H s1 := inv_start S hr.hd e0 hlen rel inc
  refine wpAny_mono (ht.run [] s1 (start N xs) H _ I hq) (fun fl s2 told => ?_) fun _ _ told => told
  match fl, told with
  | .ret _, ⟨v, _, H2, J, rv, q⟩ => exact ⟨v, H2, J.os, J.bare, J.base, J.hok, rv, q⟩
  | .next, ⟨_, H2, J, q⟩ => exact ⟨V.non, H2, J.os, J.bare, J.base, J.hok, rfl, q⟩
  | .brk, ⟨_, _, _, q⟩ => exact False.elim q
  | .cont, ⟨_, _, _, q⟩ => exact False.elim q
end
/-- the law's promise at the heap behind the top -/
theorem lawG {P : Program} {w : World} {K : PySem.W.Frag} {mg mb : Str → Option Value} {k : Nat} {fa a : Addr} {fd : FuncData} {x : Str} {sp : Sp} {s₁ : Shared} {vs : List Value} {ns : List Int}
    (KX : K.In s₁.heap) (hns : s₁.heap.Ns mainGlobals mg) (hb : s₁.heap.Ns builtinsNs mb) (hbb : ∀ x : Str, x ≠ "__name__" → mb x = bootBuiltins x) (hlim : s₁.heap.NoLimit) (hgn : s₁.gens = #[])
    (ha : s₁.heap.get? a = some { cls := .type "list", data := .seq vs.toArray }) (hi : IntsAre vs ns) (hl : ns.length ≤ sizeLine) (hr : Room k callerA)
    (F : ∀ base : Heap, K.In base → base.Ns mainGlobals mg → FnG P w K mg base k fa fd [x] sp) (hbind : ∀ (s : Shared) (u : Value), BindsTo s fd ⟨[u], []⟩ [(x, u)])
    (hsp : ∀ H : Hp, Only H → SqL K H a (ns.map V.int) → sp [.ref a] H (fun v _ => v = .bl true) fun _ _ _ => False) :
    codeAny (model P w) callerA (.call (.ref fa) ⟨[.ref a], []⟩) (fun r s' => r = .ok (.ret (.bool true)) ∧ OldK s₁.heap s'.heap ∧ s'.os = s₁.os ∧ AllBare s'.gens) s₁ := by
  have rel := vals_ints hi
  have lenV := hi.length
  have main : ∀ H : Hp, Only H → SqL K H a (ns.map V.int) → HOk P w H s₁.heap → (∀ b, H b ≠ none → b = a) → (H a ≠ none → K.lookup a = none) →
      codeAny (model P w) callerA (.call (.ref fa) ⟨[.ref a], []⟩) (fun r s' => r = .ok (.ret (.bool true)) ∧ OldK s₁.heap s'.heap ∧ s'.os = s₁.os ∧ AllBare s'.gens) s₁ := by
    intro H hO hS hok hA hK
    have dicts : ∀ {b : Addr} {o : Obj} {es : Array DictEntry} {ep : Nat}, s₁.heap.get? b = some o → o.data = .dict es ep → H b = none := fun {b o es ep} q d => by
      cases hq : H b with
      | none => rfl
      | some u =>
        have eb : b = a := hA b (by rw [hq]; simp)
        subst eb
        rw [ha] at q
        cases q
        exact nomatch (show Data.seq vs.toArray _ = Data.dict es ep from d)
    have nsK : ∀ {b : Addr} {m : Str → Option Value}, s₁.heap.Ns b m → (hidT s₁.heap H).Ns b m := fun {b m} ⟨o, es, ep, q, d, r⟩ => ⟨o, es, ep, hidT_get q (dicts q d), d, r⟩
    have inK : K.In (hidT s₁.heap H) := fun b o q => hidT_get (KX b o q) (by
      cases hq : H b with
      | none => rfl
      | some u =>
        have eb : b = a := hA b (by rw [hq]; simp)
        subst eb
        rw [hK (by rw [hq]; simp)] at q
        cases q)
    have lim2 : (hidT s₁.heap H).NoLimit := by
      obtain ⟨mc, h1, h2⟩ := hlim
      exact ⟨mc, nsK h1, h2⟩
    have e0 : Env0 P w K mg (hidT s₁.heap H) callerA [] s₁ H := ⟨rfl, ⟨inK, nsK hns, ⟨mb, nsK hb, hbb⟩, lim2⟩, fun b o q => of_hidT q, Nat.le_of_eq (hidT_size _ _), trivial, (fun b hb => nomatch (show b ∈ ([] : List Addr) from hb)), hok, .of_eq hgn⟩
    refine codeAny_mono ((F _ inK (nsK hns)).run callerA [] s₁ H ⟨[.ref a], []⟩ [.ref a] [.ref a] _ _ hr rfl e0 (hbind s₁ (.ref a)) (.cons rfl .nil) (hsp H hO hS)) fun r s2 told => ?_
    match r, told with
    | .error _, told => exact False.elim told
    | .ok .next, told => exact False.elim told
    | .ok .brk, told => exact False.elim told
    | .ok .cont, told => exact False.elim told
    | .ok (.ret u), ⟨v, H2, os, bare, un, hok2, rv, q⟩ =>
      cases (show v = .bl true from q)
      cases (show u = Value.bool true from rv)
      refine ⟨rfl, OldK.of_keep fun b o hbo => ?_, os, bare⟩
      cases hq : H b with
      | none => exact un.keep b o hbo hq (fun z => nomatch (show b ∈ ([] : List Addr) from z)) (by simp)
      | some u =>
        rcases hO b with z | ⟨ob, zs, z⟩
        · rw [hq] at z; cases z
        · obtain ⟨e1, _⟩ := hok b _ z
          obtain ⟨e2, _⟩ := hok2 b _ (un.frzs b ob _ z)
          rw [hbo] at e1
          cases e1
          exact e2
  cases hk : K.lookup a with
  | some o =>
    have q := KX a o hk
    rw [ha] at q
    cases q
    exact main (fun _ => none) (fun _ => .inl rfl) (.inr ⟨_, vs.toArray, _, hk, rfl, rfl, rfl, by rw [List.size_toArray, lenV]; exact hl, by simpa using rel⟩) (fun b u z => nomatch (show (none : Option HO) = some u from z)) (fun b z => absurd rfl z) fun z => absurd rfl z
  | none =>
    let H1 : Hp := fun b => if b = a then some (.frz { cls := .type "list", data := .seq vs.toArray } (.lst (ns.map V.int))) else none
    have at1 : H1 a = some (.frz { cls := .type "list", data := .seq vs.toArray } (.lst (ns.map V.int))) := if_pos rfl
    have off1 : ∀ b, b ≠ a → H1 b = none := fun b hb => if_neg hb
    refine main H1 (fun b => ?_) (.inl (.inr ⟨_, at1⟩)) (fun b u z => ?_) (fun b z => ?_) fun _ => hk
    · by_cases hb : b = a
      · subst hb; exact .inr ⟨_, _, at1⟩
      · exact .inl (off1 b hb)
    · by_cases hb : b = a
      · subst hb
        rw [at1] at z
        cases z
        exact ⟨ha, by rw [List.length_map]; exact hl, vs, _, rel, ha⟩
      · rw [off1 b hb] at z; cases z
    · by_cases hb : b = a
      · exact hb
      · exact absurd (off1 b hb) z
theorem walkG {l : PySem.W.OpenLaw} {n k : Nat} {q : Program} {loose : List Str} {XP : (Str → Option Value) → Heap → Prop} {YP : World → Heap → Prop} {d : DefRec} {x : Str}
    (hn : l.most = some n) (hn2 : n ≤ sizeLine) (hdf : d.params.defaults = []) (hr : Room k callerA)
    (F : ∀ (w : World) (mg : Str → Option Value) (fa : Addr) (h : Heap), YP w h → h.Ns mainGlobals mg → mg d.name = some (.ref fa) →
      ∃ (K : PySem.W.Frag) (fd : FuncData) (sp : Sp), K.In h ∧ (∀ (s : Shared) (u : Value), BindsTo s fd ⟨[u], []⟩ [(x, u)]) ∧
        (∀ (H : Hp) (a : Addr) (ns : List Int), ns.length ≤ n → Only H → SqL K H a (ns.map V.int) → sp [.ref a] H (fun v _ => v = .bl true) fun _ _ _ => False) ∧
        ∀ base : Heap, K.In base → base.Ns mainGlobals mg → FnG l.prog w K mg base k fa fd [x] sp) :
    PySem.W.WalkO q loose XP YP l.row.toRowW d [] (fun f vs => PySem.call f vs) := by
  refine Att.attach_call hn hdf fun w t0 t1 mg mb fa o pm cd doc a vs ns G Y ho hd hcd hmg hobj hints hlen hgn => ?_
  obtain ⟨K, fd, sp, KX, hb, hsp, hF⟩ := F w mg fa _ Y G.T.g hmg
  exact lawG KX G.T.g G.T.b G.T.builtins G.T.nolimit hgn hobj hints (Nat.le_trans hlen hn2) hr hF hb fun H hO hS => hsp H a ns hlen hO hS
end Mini
set_option linter.all false
set_option maxRecDepth 10000
/-! M1: does the text say what the term of the small language says? -/
namespace Mini
open PySem L2
/-! ### shapes -/
def asName : Expr → Option Str
  | .Name x _ => some x
  | _ => none
def asConst : Expr → Option Const
  | .Constant c _ _ => some c
  | _ => none
def asBin : Expr → Option (Expr × Operator × Expr)
  | .BinOp a o b _ => some (a, o, b)
  | _ => none
def asUn : Expr → Option (UnaryOp × Expr)
  | .UnaryOp o a _ => some (o, a)
  | _ => none
def asBool : Expr → Option (BoolOp × List Expr)
  | .BoolOp o es _ => some (o, es)
  | _ => none
def asIf : Expr → Option (Expr × Expr × Expr)
  | .IfExp c a b _ => some (c, a, b)
  | _ => none
def asCmp : Expr → Option (Expr × CmpOp × Expr)
  | .Compare a [o] [b] _ => some (a, o, b)
  | _ => none
def asChain : Expr → Option (Expr × CmpOp × CmpOp × Expr × Expr)
  | .Compare a [o, o2] [b, c] _ => some (a, o, o2, b, c)
  | _ => none
def asTup : Expr → Option (List Expr)
  | .Tuple es _ _ => some es
  | _ => none
def asLst : Expr → Option (List Expr)
  | .List es _ => some es
  | _ => none
def asDict : Expr → Option (List (Option Expr) × List Expr)
  | .Dict ks vs _ => some (ks, vs)
  | _ => none
def asSub : Expr → Option (Expr × Expr)
  | .Subscript a b _ => some (a, b)
  | _ => none
def asSlice : Expr → Option (Option Expr × Option Expr × Option Expr)
  | .Slice l h s _ => some (l, h, s)
  | _ => none
def asCall : Expr → Option (Str × List Expr)
  | .Call (.Name x _) es [] _ => some (x, es)
  | _ => none
def asMeth : Expr → Option (Expr × Str × List Expr)
  | .Call (.Attribute o m ap) es [] cp => if ap.endLine == cp.line then some (o, m, es) else none
  | _ => none
def asLc : Expr → Option (Expr × Expr × Expr × List Expr × Scope)
  | .ListComp e [⟨t, i, fs, 0⟩] sc _ => some (e, t, i, fs, sc)
  | _ => none
/-- not a starred one -/
def nst : Expr → Bool
  | .Starred _ _ => false
  | _ => true
/-- neither slice, set display, nor comprehension of another sort -/
def plainX : Expr → Bool
  | .Slice _ _ _ _ => false
  | .Set _ _ _ => false
  | _ => true
/-- a name or an item -/
def baseX : Expr → Bool
  | .Name _ _ => true
  | .Subscript _ _ _ => true
  | _ => false
def noComp : Expr → Bool
  | .ListComp _ _ _ _ => false
  | .SetComp _ _ _ _ => false
  | .DictComp _ _ _ _ _ => false
  | _ => true
def noTup : Expr → Bool
  | .Tuple _ _ _ => false
  | _ => true
def CE.isIf : CE → Bool
  | .ifx _ _ _ => true
  | _ => false
def constD : D → Const → Bool
  | .non, .none => true
  | .bl b, .bool c => b == c
  | .int i, .int j => decide (i = j)
  | .str s, .str z => decide (s = z)
  | _, _ => false
def B1.nm : B1 → Str
  | .len => "len" | .sorted => "sorted" | .tuple => "tuple" | .rtuple => "tuple" | .list => "list" | .sum => "sum" | .all => "all" | .any => "any" | .max => "max" | .min => "min"
  | .int => "int" | .str => "str" | .repr => "repr" | .abs => "abs" | .dictT => "dict" | .lenset => "len"
def B2.nm : B2 → Str
  | .max => "max" | .min => "min"
def Ty.tn : Ty → Str
  | .int => "int" | .bool => "bool" | .tuple => "tuple" | .str => "str"
def Mt.nm : Mt → Str
  | .append => "append" | .extend => "extend" | .pop => "pop" | .popAt => "pop" | .remove => "remove" | .dpop => "pop"
def Mt.ar : Mt → Nat
  | .pop => 0 | .dpop => 2 | _ => 1
/-- what is known of the module: the defs (name, places that are changed), the numbers -/
structure Ck where
  fs : List (Str × List Nat)
  cs : List (Str × D)
def gK (sc : Scope) (x : Str) : Bool := decide (sc.names.lookup x = some .globalImplicit) && !(x == ("__debug__" : Str))
/-- the builtins that are looked for -/
def bltNames : List Str := ["len", "sorted", "tuple", "list", "sum", "all", "any", "max", "min", "int", "str", "repr", "abs", "dict", "set", "range", "enumerate", "isinstance", "bool"]
def bK (sc : Scope) (x : Str) : Bool := gK sc x && decide (x ∈ bltNames)
def slotK (N : List Str) (sc : Scope) (i : Nat) (x : Str) : Bool := decide (N[i]? = some x) && (decide (sc.names.lookup x = some .local) || decide (sc.names.lookup x = some .cell) || decide (sc.names.lookup x = some .free)) && !(x == ("__debug__" : Str)) && !(x == ("__classdict__" : Str))
/-- a name that is set here -/
def setK_ (N : List Str) (sc : Scope) (i : Nat) (x : Str) : Bool := decide (N[i]? = some x) && (decide (sc.names.lookup x = some .local) || decide (sc.names.lookup x = some .cell))
def tgsK (N : List Str) (sc : Scope) : List Nat → List Expr → Bool
  | [], [] => true
  | i :: is, e :: es => (match asName e with | some x => setK_ N sc i x | none => false) && tgsK N sc is es
  | _, _ => false
def tgK (N : List Str) (sc : Scope) (is : List Nat) (e : Expr) : Bool := match asTup e with
  | some es => decide (is.length ≠ 1) && tgsK N sc is es
  | none => tgsK N sc is [e]
section
variable (ck : Ck) (N : List Str)
mutual
def chkE (sc : Scope) : CE → Expr → Bool
  | .var i, ex => (match asName ex with | some x => slotK N sc i x | none => false)
  | .mv i, ex => (match asName ex with | some x => slotK N sc i x | none => false)
  | .frz i, ex => (match asName ex with | some x => slotK N sc i x | none => false)
  | .cst d, ex => (match asConst ex with | some c => constD d c | none => false)
  | .glb x d, ex => (match asName ex with | some y => decide (x = y) && gK sc x && (match ck.cs.lookup x with | some (.int i) => (match d with | .int j => decide (i = j) | _ => false) | _ => false) | none => false)
  | .bin op a b, ex => (match asBin ex with | some (l, o, r) => decide (o = op) && chkE sc a l && chkE sc b r | none => false)
  | .neg a, ex => (match asUn ex with | some (.USub, e) => chkE sc a e | _ => false)
  | .not a, ex => (match asUn ex with | some (.Not, e) => chkE sc a e && !a.isIf | _ => false)
  | .cmp op a b, ex => (match asCmp ex with | some (l, o, r) => decide (o = op) && plainX r && chkE sc a l && chkE sc b r | none => false)
  | .chn op op2 a b c, ex => (match asChain ex with | some (l, o, o2, m, r) => decide (o = op) && decide (o2 = op2) && plainX m && plainX r && chkE sc a l && chkE sc b m && chkE sc c r | none => false)
  | .bop and es, ex => (match asBool ex with | some (o, xs) => decide (o = if and then .And else .Or) && chkB sc es xs | none => false)
  | .ifx c a b, ex => (match asIf ex with | some (t, l, r) => chkE sc c t && !c.isIf && chkE sc a l && chkE sc b r | none => false)
  | .tup es, ex => (match asTup ex with | some xs => chkEs sc es xs && decide (es.len ≤ 1000) | none => false)
  | .rtup es, ex => (match asTup ex with | some xs => chkEs sc es xs && decide (es.len ≤ 1000) | none => false)
  | .lst _ es, ex => (match asLst ex with | some xs => chkEs sc es xs && decide (es.len ≤ 1000) | none => false)
  | .dnew _, ex => (match asDict ex with | some ([], []) => true | _ => false)
  | .done k v, ex => (match asDict ex with | some ([some l], [r]) => chkE sc k l && chkE sc v r | _ => false)
  | .ix a b, ex => (match asSub ex with | some (l, r) => plainX r && chkE sc a l && chkE sc b r | none => false)
  | .slc a lo hi, ex => (match asSub ex with | some (l, r) => (match asSlice r with | some (x, y, none) => chkE sc a l && chkO sc lo x && chkO sc hi y | _ => false) | none => false)
  | .rev a, ex => (match asSub ex with | some (l, r) => (match asSlice r with | some (none, none, some s) => (match asUn s with | some (.USub, o) => (match asConst o with | some (.int i) => decide (i = 1) && chkE sc a l | _ => false) | _ => false) | _ => false) | none => false)
  | .call f as, ex => (match asCall ex with | some (x, es) => (match ck.fs[f]? with | some (y, io) => decide (x = y) && gK sc x && decide (io = as.iopos 0) && decide (as.ios.Nodup) && !es.isEmpty && chkA sc as es | none => false) | none => false)
  | .b1 b a, ex => (match b with
    | .lenset => (match asCall ex with | some (x, [e]) => decide (x = "len") && bK sc "len" && bK sc "set" && (match asCall e with | some (y, [z]) => decide (y = "set") && nst z && chkE sc a z | _ => false) | _ => false)
    | _ => (match asCall ex with | some (x, [e]) => decide (x = b.nm) && bK sc x && nst e && chkE sc a e | _ => false))
  | .rng tp a, ex => (match asCall ex with | some (x, [e]) => decide (x = if tp then "tuple" else "list") && bK sc x && bK sc "range" && (match asCall e with | some (y, [z]) => decide (y = "range") && nst z && chkE sc a z | _ => false) | _ => false)
  | .b2 b a c, ex => (match asCall ex with | some (x, [e, g]) => decide (x = b.nm) && bK sc x && nst e && nst g && chkE sc a e && chkE sc c g | _ => false)
  | .isi a t, ex => (match asCall ex with | some (x, [e, g]) => decide (x = "isinstance") && bK sc x && nst e && chkE sc a e && (match asName g with | some y => decide (y = t.tn) && bK sc y | none => false) | _ => false)
  | .cnt a b, ex => (match asMeth ex with | some (o, m, [e]) => decide (m = "count") && baseX o && nst e && chkE sc a o && chkE sc b e | _ => false)
  | .mth p m es, ex => (match asMeth ex with | some (o, x, as) => decide (x = m.nm) && baseX o && decide (as.length = m.ar) && chkP sc p o && chkEs sc es as | none => false)
  | .lc _ elt tg it cond, ex => (match asLc ex with | some (e, t, i, fs, sc2) => chkI sc it t i && plainX i && tgK N sc2 tg t && blkC N sc sc2 (tg.map fun i => (N.getD i "", i)) && chkE sc2 elt e && chkC sc2 cond fs | none => false)
def chkEs (sc : Scope) : CEs → List Expr → Bool
  | .nil, es => es.isEmpty
  | .cons e es, xs => (match xs with | x :: r => nst x && chkE sc e x && chkEs sc es r | [] => false)
/-- parts of an and, an or: one at least -/
def chkB (sc : Scope) : CEs → List Expr → Bool
  | .nil, _ => false
  | .cons e es, xs => (match xs with | x :: r => chkE sc e x && !e.isIf && (match es, r with | .nil, [] => true | es, r => chkB sc es r) | [] => false)
def chkC (sc : Scope) : CEs → List Expr → Bool
  | .nil, xs => xs.isEmpty
  | .cons e es, xs => (match es, xs with | .nil, [x] => chkE sc e x && !e.isIf | _, _ => false)
def chkO (sc : Scope) : CO → Option Expr → Bool
  | .no, o => o.isNone
  | .yes e, o => (match o with | some x => chkE sc e x | none => false)
def chkA (sc : Scope) : CA → List Expr → Bool
  | .nil, es => es.isEmpty
  | .val e as, xs => (match xs with | x :: r => nst x && chkE sc e x && chkA sc as r | [] => false)
  | .io i as, xs => (match xs with | x :: r => (match asName x with | some y => slotK N sc i y | none => false) && chkA sc as r | [] => false)
  | .bor i as, xs => (match xs with | x :: r => (match asName x with | some y => slotK N sc i y | none => false) && chkA sc as r | [] => false)
def chkP (sc : Scope) : CP → Expr → Bool
  | .var i, ex => (match asName ex with | some x => slotK N sc i x | none => false)
  | .ix p e, ex => (match asSub ex with | some (l, r) => plainX r && chkP sc p l && chkE sc e r | none => false)
/-- what is walked, by a target -/
def chkI (sc : Scope) : CI → Expr → Expr → Bool
  | .seq e, _, ex => chkE sc e ex
  | .rng1 e, _, ex => (match asCall ex with | some (x, [a]) => decide (x = "range") && bK sc x && nst a && chkE sc e a | _ => false)
  | .rng2 a b, _, ex => (match asCall ex with | some (x, [l, r]) => decide (x = "range") && bK sc x && nst l && nst r && chkE sc a l && chkE sc b r | _ => false)
  | .enum e, t, ex => (match asTup t with | some _ => (match asCall ex with | some (x, [a]) => decide (x = "enumerate") && bK sc x && nst a && chkE sc e a | _ => false) | none => false)
  | .zip _ _, _, _ => false
  | .keysP p, _, ex => chkP sc p ex
  | .keys e, _, ex => (match e with | .frz i => (match asName ex with | some x => slotK N sc i x | none => false) | _ => false)
end
end
end Mini
set_option linter.all false
set_option maxRecDepth 100000
/-! M3f: repr, str, count, [::-1]. -/
namespace Mini
open PySem PySem.Spec L2
section
variable {X : Cx}
theorem str_res {pins : List (Addr × Obj)} {σ : L2.St} {Hf H : Hp} {s : Shared} {Q : VK} {z : Str} (I : L2.Inv X pins σ H s) (sb : Sub Hf H) (q : ∀ v H', Res X.K Hf H (.str z) v H' → Q v H') : ∀ (h' : Heap) (t : Tok) (tk : Nat), (∀ b o, s.heap.get? b = some o → h'.get? b = some o) →
    EP X pins σ Q (.str z t) { s with heap := h', toks := tk } := fun h' t tk k => ⟨.str z, H, I.kept (t' := tk) k, ⟨t, rfl⟩, q _ _ (.str sb)⟩
theorem showable_pure {d : D} (h : d.py.showable = true) : True := trivial
theorem cb_repr (hs : Sys X) (hg : X.A.guards = some []) (hu : X.A.units + 100 < cLine) : CallR X (.builtin "repr") (rB1 X.K .repr) := by
  intro pins s σ H xs us Q I r h
  obtain ⟨Hf, d, x, rr, rfl, sb, hd, hb, q⟩ := h
  obtain ⟨u, rfl, rx⟩ := vals1 r
  have hb : (if (d.pure && d.py.showable && decide (d.py.depth ≤ 64) && decide (d.py.shown.length ≤ sizeLine)) = true then some (D.str d.py.shown) else none) = some rr := hb
  split at hb
  · rename_i hc
    cases hb
    simp only [Bool.and_eq_true, decide_eq_true_eq] at hc
    obtain ⟨⟨⟨hp, hsh⟩, hdep⟩, hlen⟩ := hc
    obtain ⟨f, hd⟩ := hd
    obtain ⟨as, hr, hn⟩ := reads_of hs I sb d x u f hd rx hsh
    have fin := str_res I sb q
    have ref : ∀ a, u = .ref a → wpAny (model X.prog X.w) X.A (call (.builtin "repr") [u]) (EP X pins σ Q) X.xe s := by
      rintro a rfl
      exact repr_of_reads' hr hsh (fun _ => hn) hg (by omega) (fun b o e => e) (fun h' t tk k => fin h' t tk k) hlen
    cases d with
    | non =>
      simp only [RV, RF] at hd
      rw [hd.2] at rx
      cases rx
      exact P.repr_of_none (fin s.heap s.toks (s.toks + 1) fun _ _ e => e)
    | bl b =>
      simp only [RV, RF] at hd
      rw [hd.2] at rx
      cases rx
      exact P.repr_of_bool (fin s.heap s.toks (s.toks + 1) fun _ _ e => e)
    | int i =>
      simp only [RV, RF] at hd
      rw [hd.2] at rx
      obtain ⟨t, rfl⟩ := rx
      have hi : i.natAbs.log2 < 1920 := by
        simp only [D.py, PyData.showable, decide_eq_true_eq] at hsh
        exact hsh
      exact P.repr_of_int hi (fin s.heap s.toks (s.toks + 1) fun _ _ e => e)
    | str z =>
      simp only [RV, RF] at hd
      rw [hd.2] at rx
      obtain ⟨t, rfl⟩ := rx
      exact P.repr_of_str (fin s.heap s.toks (s.toks + 1) fun _ _ e => e) hlen
    | tup ys =>
      obtain ⟨a, its, e, _⟩ := opd_tup_heap I sb ⟨f, hd⟩ rx
      exact ref a e
    | raw ys =>
      obtain ⟨a, its, e, _⟩ := opd_raw_heap I sb ⟨f, hd⟩ rx
      exact ref a e
    | lst m ys =>
      obtain ⟨a, its, e, _⟩ := opd_lst_heap I sb ⟨f, hd⟩ rx
      exact ref a e
    | dK m ks vs =>
      obtain ⟨a, kvs, rfl, _⟩ := Opd.dK sb ⟨f, hd⟩
      cases rx
      exact ref a rfl
    | dT m ks vs =>
      obtain ⟨a, kvs, rfl, _⟩ := Opd.dT sb ⟨f, hd⟩
      cases rx
      exact ref a rfl
    | scr ns =>
      simp only [RV, RF] at hd
      obtain ⟨_, a, rfl, _⟩ := hd
      cases rx
      exact ref a rfl
  · cases hb
theorem cb_str (hs : Sys X) (hg : X.A.guards = some []) (hu : X.A.units + 100 < cLine) : CallR X (.type "str") (rB1 X.K .str) := by
  intro pins s σ H xs us Q I r h
  obtain ⟨Hf, d, x, rr, rfl, sb, hd, hb, q⟩ := h
  obtain ⟨u, rfl, rx⟩ := vals1 r
  have hb : (if (d.pure && d.py.showable && decide (d.py.depth ≤ 64) && decide (d.py.shown.length ≤ sizeLine)) = true then some (D.str (strD d)) else none) = some rr := hb
  split at hb
  · rename_i hc
    cases hb
    simp only [Bool.and_eq_true, decide_eq_true_eq] at hc
    obtain ⟨⟨⟨hp, hsh⟩, hdep⟩, hlen⟩ := hc
    obtain ⟨f, hd⟩ := hd
    obtain ⟨as, hr, hn⟩ := reads_of hs I sb d x u f hd rx hsh
    have ref : (∀ z, d ≠ .str z) → ∀ a, u = .ref a → wpAny (model X.prog X.w) X.A (call (.type "str") [u]) (EP X pins σ Q) X.xe s := by
      rintro hz a rfl
      have e : strD d = d.py.shown := by
        cases d <;> first | rfl | exact (hz _ rfl).elim
      rw [e] at q
      exact str_of_reads hr hsh (fun _ => hn) hg (by omega) (fun b o e => e) (fun h' t tk k => str_res I sb q h' t tk k) hlen
    cases d with
    | non =>
      simp only [RV, RF] at hd
      rw [hd.2] at rx
      cases rx
      exact P.str_of_none (str_res I sb q s.heap s.toks (s.toks + 1) fun _ _ e => e)
    | bl b =>
      simp only [RV, RF] at hd
      rw [hd.2] at rx
      cases rx
      exact P.str_of_bool (str_res I sb q s.heap s.toks (s.toks + 1) fun _ _ e => e)
    | int i =>
      simp only [RV, RF] at hd
      rw [hd.2] at rx
      obtain ⟨t, rfl⟩ := rx
      have hi : i.natAbs.log2 < 1920 := by
        simp only [D.py, PyData.showable, decide_eq_true_eq] at hsh
        exact hsh
      exact P.str_of_int hi (str_res I sb q s.heap s.toks (s.toks + 1) fun _ _ e => e)
    | str z =>
      simp only [RV, RF] at hd
      rw [hd.2] at rx
      obtain ⟨t, rfl⟩ := rx
      exact P.str_of_str (str_res I sb q s.heap t s.toks fun _ _ e => e)
    | tup ys =>
      obtain ⟨a, its, e, _⟩ := opd_tup_heap I sb ⟨f, hd⟩ rx
      exact ref (fun _ => nofun) a e
    | raw ys =>
      obtain ⟨a, its, e, _⟩ := opd_raw_heap I sb ⟨f, hd⟩ rx
      exact ref (fun _ => nofun) a e
    | lst m ys =>
      obtain ⟨a, its, e, _⟩ := opd_lst_heap I sb ⟨f, hd⟩ rx
      exact ref (fun _ => nofun) a e
    | dK m ks vs =>
      obtain ⟨a, kvs, rfl, _⟩ := Opd.dK sb ⟨f, hd⟩
      cases rx
      exact ref (fun _ => nofun) a rfl
    | dT m ks vs =>
      obtain ⟨a, kvs, rfl, _⟩ := Opd.dT sb ⟨f, hd⟩
      cases rx
      exact ref (fun _ => nofun) a rfl
    | scr ns =>
      simp only [RV, RF] at hd
      obtain ⟨_, a, rfl, _⟩ := hd
      cases rx
      exact ref (fun _ => nofun) a rfl
  · cases hb
/-! ### count -/
theorem cnt_tup {pins : List (Addr × Obj)} {σ : L2.St} {H : Hp} {s : Shared} {Q : VK} {a : Addr} {ns : List Int} {k : Int} {t : Tok} (I : L2.Inv X pins σ H s) (h : SqT X.K H a (ns.map V.int)) (q : Q (.int (ns.count k : Nat)) H) :
    wpAny (model X.prog X.w) X.A (call (.builtin "tuple.count") [.ref a, .int k t]) (EP X pins σ Q) X.xe s := by
  obtain ⟨its, rv, ⟨⟨cls, dd, data, sl⟩, ho, hc, n, hd⟩, hlen⟩ := I.tuple h
  simp only at hc hd
  subst hc hd
  have hi := ints_of_vals rv
  refine call_meets PySem.F.slot_tuple_count ⟨_, ho, rfl⟩ PySem.F.entry_tuple_count (PySem.F.args_tuple_count_2 _ _) (SeqAt.tuple_countAt a its.toArray n dd sl (.int k t) (eqk k)) ⟨ho, fun y hy => (eqk_gives hi y (by simpa using hy)).at _ _, ?_⟩
  have ec : its.toArray.toList.countP (eqk k) = ns.count k := eqk_count hi
  rw [ec]
  exact ⟨.int (ns.count k : Nat), H, I.tok _, ⟨s.toks, rfl⟩, q⟩
def tCnt (K : PySem.W.Frag) (to te : TE) : TE := fun σ H Q => to σ H fun x H1 => ∃ a, x = .ref a ∧
  (((∃ xs, SqL K H1 a xs) ∧ te σ H1 fun y H2 => ∃ (ns : List Int) (k : Int), y = .int k ∧ SqL K H2 a (ns.map V.int) ∧ Q (.int (ns.count k : Nat)) H2) ∨
   ((∃ o xs, H1 a = some (.frz o (.tup xs)) ∧ o.dict = none) ∧ te σ H1 fun y H2 => ∃ (ns : List Int) (k : Int), y = .int k ∧ SqT K H2 a (ns.map V.int) ∧ Q (.int (ns.count k : Nat)) H2))
theorem pe_cntD {o e : Expr} {to te : TE} {apos cpos : Pos} (ho : PE X o to) (he : PE X e te) (hbase : attributeBase o "count" X.env (eval o X.env) = eval o X.env) (hline : (apos.endLine == cpos.line) = true)
    (hs : starEach [e] X.env = (false, eval e X.env) :: starEach [] X.env) : PE X (.Call (.Attribute o "count" apos) [e] [] cpos) (tCnt X.K to te) := by
  have hfew : ((backTo cpos (starEach [e] X.env)).all (fun x => !x.1) && (backToKw cpos (keywordEach [] X.env)).all (fun x => x.1.isSome) && decide ([e].length + ([] : List Keyword).length + (if ([] : List Keyword).isEmpty then 0 else 1) < 30)) = true := by rw [hs]; rfl
  refine ⟨fun pins s σ H Q I h => ?_⟩
  refine wpAny_Call_method_late hbase hfew hline rfl (thn (ho.run pins s σ H _ I h) fun v s1 told => ?_)
  obtain ⟨x, H1, I1, r1, a, rfl, q1⟩ := told
  cases r1
  rcases q1 with ⟨⟨xs, hx⟩, q1⟩ | ⟨⟨ob, xs, hx, hdn⟩, q1⟩
  · obtain ⟨its, rv, ⟨ob, n, hob, hcl, hdn, hdat⟩, hz⟩ := I1.list hx
    refine ⟨"list", "list.count", PySem.F.plainAttrs_list, PySem.F.slot_list_count, PySem.F.type_list_count, ⟨ob, hob, hcl⟩, (fun b z => by cases z; exact ⟨ob, hob, hdn⟩), ?_⟩
    have hA := (pa_cons he pa_nil hs).run cpos pins s1 σ H1 (fun vs H2 => match vs with | [y] => ∃ (ns : List Int) (k : Int), y = .int k ∧ SqL X.K H2 a (ns.map V.int) ∧ Q (.int (ns.count k : Nat)) H2 | _ => False) I1 q1
    rw [hs] at hA ⊢
    refine Calls.callWith_builtin rfl (Calls.evalArgs_plain (thn hA fun us s2 told => ?_))
    obtain ⟨vs, H2, I2, r2, q2⟩ := told
    match vs, r2, q2 with
    | [y], r2, q2 =>
      obtain ⟨ns, k, rfl, hq, q⟩ := q2
      exact mt_lcount pins s2 σ H2 (.ref a) [.int k] (.ref a) us Q I2 rfl r2 ⟨a, ns, k, rfl, rfl, hq, q⟩
    | [], _, q2 => exact False.elim q2
    | _ :: _ :: _, _, q2 => exact False.elim q2
  · obtain ⟨hob, hz, its, rv, ob2, hob2, hcl, n, hdat⟩ := (show ObjOk X.prog X.w H1 s1.heap a (.frz ob (.tup xs)) from I1.hok a _ hx)
    rw [hob] at hob2
    cases hob2
    refine ⟨"tuple", "tuple.count", PySem.F.plainAttrs_tuple, PySem.F.slot_tuple_count, PySem.F.type_tuple_count, ⟨ob, hob, hcl⟩, (fun b z => by cases z; exact ⟨ob, hob, hdn⟩), ?_⟩
    have hA := (pa_cons he pa_nil hs).run cpos pins s1 σ H1 (fun vs H2 => match vs with | [y] => ∃ (ns : List Int) (k : Int), y = .int k ∧ SqT X.K H2 a (ns.map V.int) ∧ Q (.int (ns.count k : Nat)) H2 | _ => False) I1 q1
    rw [hs] at hA ⊢
    refine Calls.callWith_builtin rfl (Calls.evalArgs_plain (thn hA fun us s2 told => ?_))
    obtain ⟨vs, H2, I2, r2, q2⟩ := told
    match vs, r2, q2 with
    | [y], r2, q2 =>
      obtain ⟨ns, k, rfl, hq, q⟩ := q2
      obtain ⟨u, rfl, t, rfl⟩ := vals1 r2
      exact cnt_tup I2 hq q
    | [], _, q2 => exact False.elim q2
    | _ :: _ :: _, _, q2 => exact False.elim q2
end
section
variable {K : PySem.W.Frag} {Φ : Phi} {σ : L2.St} {H : Hp} {Q : VK}
theorem im_cnt {a b : CE} (h : tE K Φ (.cnt a b) σ H Q) : tCnt K (tE K Φ a) (tE K Φ b) σ H Q := by
  obtain ⟨Hf, F, ρ, s, sl, h⟩ := tE_iff.mp h
  simp only [den] at h
  obtain ⟨x, ρ1, e1, h⟩ := wish_bind h
  obtain ⟨y, ρ2, e2, h⟩ := wish_bind h
  obtain ⟨ht, h⟩ := wish_if h
  obtain ⟨r, e3, h⟩ := wish_vOf h
  refine tE_run s sl e1 fun v H1 Hf1 F1 f1 w1 => ?_
  have fin : ∀ {n : Nat} {u : V} {H2 Hf2 : Hp} {F2 f2 : List Addr}, r = .int n → PstW K Hf1 H1 F1 ρ1 σ b.quiet y ρ2 u H2 Hf2 F2 f2 → Q (.int n) H2 := fun {n u H2 Hf2 F2 f2} er w2 => by
    obtain ⟨p1, p2, p3, p4, p5⟩ := w1.two w2 ht
    rw [List.append_assoc] at p1 p2
    exact h _ _ (by rw [er]; exact (Res.int p1.sub).pst p1 w2.sl.tr w2.sl p2 fun z => p5 (by simpa only [CE.quiet] using z))
  unfold cntD at e3
  split at e3
  · rename_i xs i ex ey
    obtain ⟨ns, en, er⟩ := Option.map_eq_some_iff.mp e3
    have o1 := w1.own.opd
    rw [ex] at o1
    obtain ⟨a1, vs, rfl, ⟨ob, h1, hdn⟩, h2⟩ := o1.tup
    refine ⟨a1, rfl, .inr ⟨⟨ob, vs, w1.sta.sub _ _ h1, hdn⟩, tE_run w1.less w1.sl e2 fun u H2 Hf2 F2 f2 w2 => ⟨ns, i, w2.intv ey, ?_, fin er.symm w2⟩⟩⟩
    rw [← RFs.ints h2 en]
    exact .inl (.inr ⟨ob, w2.sta.sub _ _ (w2.step.hf _ _ h1)⟩)
  · rename_i m xs i ex ey
    obtain ⟨ns, en, er⟩ := Option.map_eq_some_iff.mp e3
    have o1 := w1.own.opd
    rw [ex] at o1
    obtain ⟨a1, vs, rfl, h1, h2, h3, _⟩ := o1.lst w1.sta.sub
    refine ⟨a1, rfl, .inl ⟨⟨vs, .inl h1⟩, tE_run w1.less w1.sl e2 fun u H2 Hf2 F2 f2 w2 => ⟨ns, i, w2.intv ey, ?_, fin er.symm w2⟩⟩⟩
    obtain ⟨_, _, p3, _, _⟩ := w1.two w2 ht
    have o3 := p3.opd
    rw [ex] at o3
    obtain ⟨a2, vs2, e, k1, k2, k3, _⟩ := o3.lst w2.sta.sub
    cases e
    rw [← RFs.ints (k3 (pures_of_intsOf en)) en]
    exact .inl k1
  · cases e3
theorem im_rev {a : CE} (h : tE K Φ (.rev a) σ H Q) : tRevD K (tE K Φ a) σ H Q :=
  tE_mono (im_op1 (a := a) (k := revD) (fun ρ => by simp only [den]) (by simp only [CE.quiet]) h) fun v H' ⟨Hf, d, r, sb, ho, hk, hq⟩ => by
    unfold revD at hk
    split at hk
    · cases hk
      obtain ⟨a1, vs, rfl, h1, h2⟩ := ho.tup
      exact ⟨a1, vs, rfl, .inr ⟨h1.sq sb, fun p o hp hd => hq _ _ (.tup sb hp hd h2.reverse)⟩⟩
    · split at hk
      · rename_i hp
        cases hk
        obtain ⟨a1, vs, rfl, h1, h2, h3, _⟩ := ho.lst sb
        exact ⟨a1, vs, rfl, .inl ⟨.inl h1, fun p hn => hq _ _ (.lst sb hn (h3 hp).reverse)⟩⟩
      · cases hk
    · cases hk
end
end Mini
set_option linter.all false
set_option maxRecDepth 100000
/-! M3j: dict(pairs) with tuples as keys; len(set(tuple)). -/
namespace Mini
open PySem PySem.Spec PyProof.Rows L2
section
variable {prog : Program} {w : World} {A : Around} {E : Value → Shared → Prop}
abbrev TK (prog : Program) (w : World) := tupleKind (mixKind prog w)
def storeAll (acc rest : List (List Key × Addr × Value)) : List (List Key × Addr × Value) := rest.foldl (fun acc q => storedH acc q.1 q.2.1 q.2.2) acc
theorem storedH_len {κ : Type} [DecidableEq κ] (xs : List (κ × Addr × Value)) (k : κ) (a : Addr) (v : Value) : (storedH xs k a v).length ≤ xs.length + 1 := by
  unfold storedH
  split <;> simp
theorem storedH_mem {κ : Type} [DecidableEq κ] {xs : List (κ × Addr × Value)} {k : κ} {a : Addr} {v : Value} {x : κ × Addr × Value} (h : x ∈ storedH xs k a v) : (∃ y ∈ xs, x.2.1 = y.2.1) ∨ x.2.1 = a := by
  unfold storedH at h
  split at h
  · obtain ⟨y, hy, rfl⟩ := List.mem_map.mp h
    refine .inl ⟨y, hy, ?_⟩
    unfold putAt
    split <;> rfl
  · rcases List.mem_append.mp h with h | h
    · exact .inl ⟨x, h, rfl⟩
    · rw [List.mem_singleton.mp h]; exact .inr rfl
theorem tkey_at {h h' : Heap} {ks : List Key} {a : Addr} (x : (TK prog w).is h ks a) (k : ∀ o, h.get? a = some o → h'.get? a = some o) : (TK prog w).is h' ks a := by
  obtain ⟨o, its, n, h1, h2, h3, h4⟩ := (show IsTupleKey (mixKind prog w) h ks a from x)
  exact ⟨o, its, n, k o h1, h2, h3, h4⟩
theorem dictH_at {h h' : Heap} {d : Addr} {xs : List (List Key × Addr × Value)} (x : h.DictOfH (TK prog w) d xs) (k : ∀ o, h.get? d = some o → h'.get? d = some o) (kk : ∀ y ∈ xs, ∀ o, h.get? y.2.1 = some o → h'.get? y.2.1 = some o) : h'.DictOfH (TK prog w) d xs := by
  obtain ⟨o, es, ep, h1, h2, h3, h4, h5, h6⟩ := x
  exact ⟨o, es, ep, k o h1, h2, h3, h4, fun y hy => tkey_at (h5 y hy) (kk y hy), h6⟩
/-- the walk over the pairs, the keys tuples -/
theorem updT_loop {R : Result → Shared → Prop} {S I l : Addr} {items : Array Value} {res : Value} (hh : A.handled = none) (room : A.units + 1 < cLine) (hlI : l ≠ I) (hSI : S ≠ I) (hSl : S ≠ l) :
    ∀ (rest : List (List Key × Addr × Value)) (i : Nat) (acc : List (List Key × Addr × Value)) (ix : Int) (t : Tok) (s : Shared), items.size = i + rest.length → acc.length + rest.length ≤ sizeLine → (∀ y ∈ acc, y.2.1 ≠ I ∧ y.2.1 ≠ S) →
      (∀ (j : Nat) (q : List Key × Addr × Value), rest[j]? = some q → ∃ b : Addr, items[i + j]? = some (.ref b) ∧ b ≠ S ∧ b ≠ I ∧ q.2.1 ≠ S ∧ q.2.1 ≠ I ∧ IsTup s.heap b #[.ref q.2.1, q.2.2] ∧ (TK prog w).is s.heap q.1 q.2.1) →
      s.heap.IsListIter I l i → s.heap.IsList l items → s.heap.DictOfH (TK prog w) S acc →
      (∀ h' tk, h'.DictOfH (TK prog w) S (storeAll acc rest) → (∀ b o, b ≠ S → b ≠ I → s.heap.get? b = some o → h'.get? b = some o) → R (.ok (.ret res)) { s with heap := h', toks := tk }) →
      codeAny (model prog w) A (.builtin "dict.update.loop" ⟨[.ref S, .ref I, .int ix t, res], []⟩) R s
  | [], i, acc, ix, t, s, hsz, hln, hacc, ht, hit, hl, hm, hR => by
    refine codeAny_builtin ud_entry ?_
    rw [Around.under_plainId ud_plain _]
    show wpAny _ A.in1 (pyNext (.ref I) >>= _) _ _ s
    refine wpAny_bind (wpAny_pyNext_list_end (A := A.in1) hh hit hl (by first | exact Array.getElem?_eq_none (Nat.le_of_eq hsz) | (simp at hsz; simp; omega)) fun h' he => ?_)
    show wpAny _ A.in1 (Builtin.Dict.addKeywords S [] >>= _) _ _ _
    refine wpAny_bind (wpAny_pure (wpAny_pure ?_))
    exact hR h' s.toks (dictH_at hm (fun o e => he S o hSI e) fun y hy o e => he _ o (hacc y hy).1 e) fun b o _ hb e => he b o hb e
  | q :: rest, i, acc, ix, t, s, hsz, hln, hacc, ht, hit, hl, hm, hR => by
    obtain ⟨b, hb, hbS, hbI, hkS, hkI, htup, hk⟩ := ht 0 q rfl
    rw [List.length_cons] at hsz hln
    refine codeAny_builtin ud_entry ?_
    rw [Around.under_plainId ud_plain _]
    show wpAny _ A.in1 (pyNext (.ref I) >>= _) _ _ s
    refine wpAny_bind (wpAny_pyNext_list_item (x := .ref b) hit hl (by simpa using hb) fun h1 hit1 hs1 => ?_)
    have k1 : ∀ c o, c ≠ I → s.heap.get? c = some o → h1.get? c = some o := fun c o hc e => hs1.extBut c o hc e
    have ht1 : IsTup h1 b #[.ref q.2.1, q.2.2] := htup.extBut hs1.extBut hbI
    have hl1 : h1.IsList l items := hl.extBut hs1.extBut hlI
    have hm1 : h1.DictOfH (TK prog w) S acc := dictH_at hm (fun o e => k1 S o hSI e) fun y hy o e => k1 _ o (hacc y hy).1 e
    have hk1 : (TK prog w).is h1 q.1 q.2.1 := tkey_at hk fun o e => k1 _ o hkI e
    obtain ⟨o, ho, hc, n, hd⟩ := id ht1
    show wpAny _ A.in1 (holding [Value.ref b] _ >>= _) _ _ _
    refine wpAny_bind (wpAny_holding ?_)
    refine wpAny_bind (wpAny_tryCatch ?_)
    unfold Builtin.Dict.pairItems
    refine wpAny_bind (wpAny_typeOf (T := "tuple") ⟨o, ho, hc⟩ ?_)
    rw [if_pos (by first | decide | rfl | simp)]
    refine wpAny_bind (wpAny_seqItems ho hd (wpAny_pure ?_))
    show wpAny _ A.in1 (holding [Value.ref q.2.1, q.2.2] (dictSet S (.ref q.2.1) q.2.2)) _ _ _
    refine wpAny_holding (wpAny_dictSet_heap (knd := TK prog w) (k := q.1) (a := q.2.1) (show A.units + 1 < cLine from room) hk1 hm1 (fun h2 hm2 hs2 => ?_) (by omega))
    refine wpAny_pure ⟨plainId_quiet ud_plain _, updT_loop (items := items) hh room hlI hSI hSl rest (i + 1) (storedH acc q.1 q.2.1 q.2.2) (ix + 1) 0 _ (show items.size = i + 1 + rest.length by omega) ?_ (fun y hy => ?_) (fun j q' e => ?_) ?_ ?_ hm2 fun h' tk hd' k => ?_⟩
    · have z := storedH_len acc q.1 q.2.1 q.2.2
      omega
    · rcases storedH_mem hy with ⟨z, hz, e⟩ | e
      · rw [e]; exact hacc z hz
      · rw [e]; exact ⟨hkI, hkS⟩
    · obtain ⟨b', hb', hbS', hbI', hkS', hkI', htup', hk'⟩ := ht (j + 1) q' (by simpa using e)
      refine ⟨b', ?_, hbS', hbI', hkS', hkI', (htup'.extBut hs1.extBut hbI').extBut hs2.extBut hbS', tkey_at hk' fun o e => hs2.extBut _ o hkS' (k1 _ o hkI' e)⟩
      rw [show i + 1 + j = i + (j + 1) by omega]
      exact hb'
    · exact hit1.at fun o' e => hs2.extBut I o' (Ne.symm hSI) e
    · exact hl1.extBut hs2.extBut (Ne.symm hSl)
    · exact hR h' tk hd' fun c oc h3 h4 e => k c oc h3 h4 (hs2.extBut c oc h3 (hs1.extBut c oc h4 e))
theorem call_dict_T {s : Shared} {l : Addr} {ol : Obj} {items : Array Value} {n : Nat} {prs : List (List Key × Addr × Value)} {Q : Value → Shared → Prop} (hh : A.handled = none) (room : A.units + 10 < cLine) (hl : s.heap.get? l = some ol) (hc : ol.cls = .type "list") (hd : ol.dict = none)
    (hdat : ol.data = .seq items n) (hsz : items.size = prs.length) (hln : prs.length ≤ sizeLine)
    (ht : ∀ (j : Nat) (q : List Key × Addr × Value), prs[j]? = some q → ∃ b : Addr, items[j]? = some (.ref b) ∧ IsTup s.heap b #[.ref q.2.1, q.2.2] ∧ (TK prog w).is s.heap q.1 q.2.1)
    (h : ∀ h' tk, h'.DictOfH (TK prog w) s.heap.objs.size (storeAll [] prs) → (∀ b o, s.heap.get? b = some o → h'.get? b = some o) → Q (.ref s.heap.objs.size) { s with heap := h', toks := tk }) :
    wpAny (model prog w) A (call (.type "dict") [.ref l]) Q E s := by
  refine callType_codes (Q₁ := fun obj s₁ => obj = .ref s.heap.objs.size ∧ s₁ = { s with heap := s.heap.push { cls := .type "dict", data := .dict #[] } }) PySem.F.kt_called_dict (PySem.F.kt_typeCall_dict_1 _) PySem.F.entry_dict_init (kt_code_dict_new _ ⟨rfl, rfl⟩) ?_
  rintro obj s₁ ⟨rfl, rfl⟩
  have hnew : (s.heap.push { cls := .type "dict", data := .dict #[] }).DictOfH (TK prog w) s.heap.objs.size [] := Heap.DictOfH.new s.heap
  have k0 : ∀ b o, s.heap.get? b = some o → (s.heap.push { cls := .type "dict", data := .dict #[] }).get? b = some o := fun b o e => Heap.get?_push_of_some _ e
  refine ⟨hnew.typeIs, PySem.F.args_dict_init_2 _ _, ?_⟩
  unfold Builtin.«dict.__init__»
  refine wpAny_bind ?_
  unfold Builtin.Dict.selfAndRest
  refine wpAny_bind (wpAny_notOrdered_dict hnew.typeIs ?_)
  show wpAny _ _ (pure (s.heap.objs.size, [Value.ref l])) _ _ _
  refine wpAny_pure ?_
  show wpAny _ _ (Builtin.Dict.updateFrom "dict.__init__" s.heap.objs.size (.ref l) [] .none) _ _ _
  unfold Builtin.Dict.updateFrom
  refine wpAny_bind (wpAny_typeOf (T := "list") ⟨ol, k0 _ _ hl, hc⟩ ?_)
  rw [if_pos (by first | decide | rfl | simp)]
  refine wpAny_bind (miss_list (k0 _ _ hl) hc hdat hd hh fun h1 tk1 hk1 => ?_)
  rw [if_pos (show (none : Option Value).isNone = true from rfl)]
  refine wpAny_bind (wpAny_rule ?_)
  have hl1 : h1.IsList l items := ⟨ol, hk1 _ _ (k0 _ _ hl), hc, n, hdat⟩
  have hS1 : s.heap.objs.size < h1.objs.size := Heap.lt_size (hk1 _ _ (Heap.get?_push_size s.heap (o := { cls := .type "dict", data := .dict #[] }) rfl))
  refine wpAny_bind (wpAny_pyIter_list hl1 ?_)
  have k2 : ∀ b o, h1.get? b = some o → (h1.push { cls := .type "list_iterator", data := .fields #[.ref l, .int 0 0] }).get? b = some o := fun b o e => Heap.get?_push_of_some _ e
  have k3 : ∀ b o, s.heap.get? b = some o → (h1.push { cls := .type "list_iterator", data := .fields #[.ref l, .int 0 0] }).get? b = some o := fun b o e => k2 _ _ (hk1 _ _ (k0 _ _ e))
  have hlt : l < s.heap.objs.size := Heap.lt_size hl
  have key := updT_loop (prog := prog) (w := w) (A := A.in1) (R := wants (fun r s₂ => r = .none ∧ Q (.ref s.heap.objs.size) s₂) E) (S := s.heap.objs.size) (I := h1.objs.size) (l := l) (items := items) (res := Value.none) hh (show A.units + 1 + 1 < cLine by omega)
    (Nat.ne_of_lt (Nat.lt_trans hlt hS1)) (Nat.ne_of_lt hS1) (Nat.ne_of_gt hlt) prs 0 [] 0 0
    { s with heap := h1.push { cls := .type "list_iterator", data := .fields #[.ref l, .int 0 0] }, toks := tk1 } (by rw [hsz, Nat.zero_add]) (by rw [List.length_nil, Nat.zero_add]; exact hln) (fun y hy => nomatch hy)
    (fun j q e => by
      obtain ⟨b, e1, e2, e3⟩ := ht j q e
      have hb : b < s.heap.objs.size := e2.lt
      have hq : q.2.1 < s.heap.objs.size := by
        obtain ⟨o, _, _, z, _⟩ := (show IsTupleKey (mixKind prog w) s.heap q.1 q.2.1 from e3)
        exact Heap.lt_size z
      exact ⟨b, by rw [Nat.zero_add]; exact e1, Nat.ne_of_lt hb, Nat.ne_of_lt (Nat.lt_trans hb hS1), Nat.ne_of_lt hq, Nat.ne_of_lt (Nat.lt_trans hq hS1), e2.keeps fun c o z => k3 _ _ z, tkey_at e3 fun o z => k3 _ _ z⟩)
    ⟨_, Heap.get?_push_size _ rfl, rfl, rfl⟩ (hl1.at fun o e => k2 _ _ e) (dictH_at hnew (fun o e => k2 _ _ (hk1 _ _ e)) fun y hy => nomatch hy)
    (fun h' tk hd' k => ⟨rfl, h h' tk hd' fun b o e => k b o (Nat.ne_of_lt (Heap.lt_size e)) (Nat.ne_of_lt (Nat.lt_trans (Heap.lt_size e) hS1)) (k3 _ _ e)⟩)
  first
    | exact wpAny_pure ⟨plainId_quiet ud_plain _, key⟩
    | exact wpAny_bind (wpAny_pure (wpAny_pure ⟨plainId_quiet ud_plain _, key⟩))
end
section
variable {X : Cx}
theorem putT_rel {κ : Type} [DecidableEq κ] {K : PySem.W.Frag} {Hf : Hp} {kvs : List (κ × V)} {ds : List D} {k : κ} {x : D} {v : V} (nd : (kvs.map (·.1)).Nodup) (h : RFs K Hf ds (kvs.map (·.2))) (hx : RF K Hf x v) :
    (putK kvs k v).map (·.1) = (putT (kvs.map (·.1), ds) (k, x)).1 ∧ RFs K Hf (putT (kvs.map (·.1), ds) (k, x)).2 ((putK kvs k v).map (·.2)) ∧ ((putK kvs k v).map (·.1)).Nodup := by
  have hl : ds.length = (kvs.map (·.1)).length := by have := h.length; simpa using this.symm
  unfold putT
  by_cases hm : k ∈ kvs.map (·.1)
  · rw [if_pos hm]
    have hi : (kvs.map (·.1)).idxOf k < (kvs.map (·.1)).length := List.idxOf_lt_length_of_mem hm
    have ek : (kvs.set ((kvs.map (·.1)).idxOf k) (k, v)).map (·.1) = kvs.map (·.1) := by
      rw [List.map_set]
      refine List.ext_getElem? fun i => ?_
      by_cases e : (kvs.map (·.1)).idxOf k = i
      · subst e
        rw [List.getElem?_set_self hi, List.getElem?_eq_getElem hi, List.getElem_idxOf]
      · rw [List.getElem?_set_ne e]
    rw [putK_set _ _ _ nd hm]
    refine ⟨ek, ?_, by rw [ek]; exact nd⟩
    simp only
    rw [setK_set _ _ _ _ hl, if_pos hm, List.map_set]
    exact RFs.set _ h hx
  · rw [if_neg hm, putK_app _ _ _ hm]
    refine ⟨by simp, ?_, ?_⟩
    · simp only [List.map_append, List.map_cons, List.map_nil]
      exact RFs.app h (RFs.one hx)
    · simp only [List.map_append, List.map_cons, List.map_nil]
      exact List.nodup_append.mpr ⟨nd, by simp, fun a ha b hb e => by rw [List.mem_singleton.mp hb] at e; subst e; exact hm ha⟩
theorem fold_rel {κ : Type} [DecidableEq κ] {K : PySem.W.Frag} {Hf : Hp} : ∀ (more : List (κ × V)) (ps : List (κ × D)) (kvs : List (κ × V)) (ds : List D), more.map (·.1) = ps.map (·.1) → RFs K Hf (ps.map (·.2)) (more.map (·.2)) → (kvs.map (·.1)).Nodup → RFs K Hf ds (kvs.map (·.2)) →
    (more.foldl (fun acc q => putK acc q.1 q.2) kvs).map (·.1) = (ps.foldl putT (kvs.map (·.1), ds)).1 ∧ RFs K Hf (ps.foldl putT (kvs.map (·.1), ds)).2 ((more.foldl (fun acc q => putK acc q.1 q.2) kvs).map (·.2))
  | [], [], kvs, ds, _, _, nd, h => ⟨rfl, h⟩
  | [], _ :: _, kvs, ds, e, _, _, _ => by simp at e
  | _ :: _, [], kvs, ds, e, _, _, _ => by simp at e
  | q :: more, p :: ps, kvs, ds, e, hr, nd, h => by
    simp only [List.map_cons, List.cons.injEq] at e
    simp only [List.map_cons, RFs] at hr
    obtain ⟨v, r, ev, h1, h2⟩ := hr
    cases ev
    obtain ⟨r1, r2, r3⟩ := putT_rel (k := q.1) nd h h1
    have ep : p = (q.1, p.2) := by rw [e.1]
    simp only [List.foldl_cons]
    rw [ep]
    have ih := fold_rel more ps (putK kvs q.1 q.2) (putT (kvs.map (·.1), ds) (q.1, p.2)).2 e.2 h2 r3 r2
    have e2 : ((putK kvs q.1 q.2).map (·.1), (putT (kvs.map (·.1), ds) (q.1, p.2)).2) = putT (kvs.map (·.1), ds) (q.1, p.2) := by rw [r1]
    rw [e2] at ih
    exact ih
theorem fold_KT {H : Hp} : ∀ {kvs : List (List Key × V)} {prs : List (List Key × Addr × Value)} {acc : List (List Key × V)} {xs : List (List Key × Addr × Value)}, KT H kvs prs → KT H acc xs → KT H (kvs.foldl (fun acc q => putK acc q.1 q.2) acc) (storeAll xs prs) := by
  intro kvs prs acc xs h
  induction h generalizing acc xs with
  | nil => intro h; exact h
  | @cons p q ps qs h t ih =>
    intro h2
    have h3 : KT H (putK acc p.1 p.2) (storedH xs q.1 q.2.1 q.2.2) := by
      rw [← h.1]
      exact KT.put h2 p.1 h.2.1 h.2.2
    exact ih h3
theorem fold_len {κ : Type} [DecidableEq κ] : ∀ (more kvs : List (κ × V)), (more.foldl (fun acc q => putK acc q.1 q.2) kvs).length ≤ kvs.length + more.length
  | [], kvs => by simp
  | q :: more, kvs => by
    have h1 := fold_len more (putK kvs q.1 q.2)
    have h2 := length_putK kvs q.1 q.2
    simp only [List.foldl_cons, List.length_cons]
    omega
section
variable {X : Cx} {pins : List (Addr × Obj)} {σ : L2.St} {Hf H : Hp} {s : Shared}
theorem pairs_run (I : L2.Inv X pins σ H s) (sb : Sub Hf H) : ∀ {xs : List D} {vs : List V} {ps : List (List Key × D)}, RFs X.K Hf xs vs → pairsT xs = some ps →
    ∃ (bs : List Addr) (kvs : List (List Key × V)) (prs : List (List Key × Addr × Value)), vs = bs.map V.ref ∧ KT H kvs prs ∧ kvs.map (·.1) = ps.map (·.1) ∧ RFs X.K Hf (ps.map (·.2)) (kvs.map (·.2)) ∧ prs.length = bs.length ∧
      ∀ (j : Nat) (q : List Key × Addr × Value), prs[j]? = some q → ∃ b, bs[j]? = some b ∧ IsTup s.heap b #[.ref q.2.1, q.2.2] ∧ (TK X.prog X.w).is s.heap q.1 q.2.1
  | [], vs, ps, h, e => by
    simp only [RFs] at h
    simp only [pairsT, Option.some.injEq] at e
    subst h e
    exact ⟨[], [], [], rfl, .nil, rfl, by simp [RFs], rfl, fun j q z => by simp at z⟩
  | x :: xs, vs, ps, h, e => by
    simp only [RFs] at h
    obtain ⟨v, r, rfl, h1, h2⟩ := h
    unfold pairsT at e
    split at e
    · rename_i z; cases z
    · rename_i k d xs' ez
      cases ez
      obtain ⟨ks, hk, e⟩ := Option.bind_eq_some_iff.mp e
      split at e
      · rename_i hp
        obtain ⟨ps', hps, rfl⟩ := Option.map_eq_some_iff.mp e
        obtain ⟨bs, kvs, prs, rfl, a1, a2, a3, a4, a5⟩ := pairs_run I sb h2 hps
        simp only [RF] at h1
        obtain ⟨b, ws, rfl, ht, hw⟩ := h1
        simp only [RFs] at hw
        obtain ⟨kv, w1, rfl, hkv, vv, w2, rfl, hvv, rfl⟩ := hw
        obtain ⟨ka, rfl, hka⟩ := keyT_V sb ⟨[], RV.of_RF hkv⟩ hk
        obtain ⟨its, rv, pt, _⟩ := I.tuple (ht.sq sb)
        obtain ⟨u1, u2, rfl, ru1, ru2⟩ := vals2 rv
        cases ru1
        refine ⟨b :: bs, (ks, vv) :: kvs, (ks, ka, u2) :: prs, rfl, .cons ⟨rfl, hka, ru2⟩ a1, by simp [a2], ?_, by simp [a4], fun j q z => ?_⟩
        · simp only [List.map_cons, RFs]
          exact ⟨vv, _, rfl, hvv, a3⟩
        · cases j with
          | zero =>
            simp at z; subst z
            exact ⟨b, rfl, pt, key_of I.hok hka⟩
          | succ j => simpa using a5 j q (by simpa using z)
      · cases e
    · cases e
theorem pures_of_pairsT : ∀ {xs : List D} {ps : List (List Key × D)}, pairsT xs = some ps → D.pures xs = true
  | [], _, _ => rfl
  | x :: xs, ps, e => by
    unfold pairsT at e
    split at e
    · rename_i z; cases z
    · rename_i k d xs' ez
      cases ez
      obtain ⟨ks, hk, e⟩ := Option.bind_eq_some_iff.mp e
      split at e
      · obtain ⟨ps', hps, rfl⟩ := Option.map_eq_some_iff.mp e
        rw [D.pures_cons, pures_of_pairsT hps]; rfl
      · cases e
    · cases e
end
theorem cb_dictT (hc : X.calm = true) (hu : X.A.units + 100 < cLine) : CallR X (.type "dict") (rB1 X.K .dictT) := by
  intro pins s σ H xs us Q I r h
  obtain ⟨Hf, d, x, rr, rfl, sb, hd, hg, q⟩ := h
  obtain ⟨u, rfl, rx⟩ := vals1 r
  cases d <;> try (exact absurd (show (none : Option D) = some rr from hg) (fun z => nomatch z))
  case lst m ys =>
    obtain ⟨ps, e, rfl⟩ := Option.map_eq_some_iff.mp (show (pairsT ys).map (fun ps => D.dT true (ps.foldl putT ([], [])).1 (ps.foldl putT ([], [])).2) = some rr from hg)
    obtain ⟨a, vs, rfl, h1, h2, h3, _⟩ := hd.lst sb
    cases rx
    obtain ⟨bs, kvs, prs, rfl, a1, a2, a3, a4, a5⟩ := pairs_run I sb (h3 (pures_of_pairsT e)) e
    obtain ⟨its, rv, ⟨o, n, ho, hcl, hdn, hdat⟩, hz⟩ := I.list (.inl h1)
    have ei := refs_at rv
    subst ei
    rw [List.length_map] at hz
    have hlen : (kvs.foldl (fun acc q => putK acc q.1 q.2) ([] : List (List Key × V))).length ≤ sizeLine := by
      have z1 := fold_len kvs ([] : List (List Key × V))
      have z2 : kvs.length = prs.length := Paired.length a1
      simp only [List.length_nil, Nat.zero_add] at z1
      omega
    refine call_dict_T (prs := prs) (I.ok.hd hc) (by omega) ho hcl hdn hdat (by simp [a4]) (by omega) (fun j q' z => ?_) fun h' tk hd' k => ?_
    · obtain ⟨b, e1, e2, e3⟩ := a5 j q' z
      exact ⟨b, by simp [e1], e2, e3⟩
    · have hm : (s.heap.objs.size == sysModules) = false := beq_eq_false_iff_ne.mpr (Nat.ne_of_gt I.big)
      obtain ⟨ob, es, ep, g1, g2, g3, g4, g5, g6⟩ := hd'
      obtain ⟨f1, f2⟩ := fold_rel kvs ps [] [] a2 a3 (by simp) (by simp [RFs])
      have hn : H s.heap.objs.size = none := I.hok.fresh (Nat.le_refl _)
      have kt : KT H (kvs.foldl (fun acc q => putK acc q.1 q.2) []) (storeAll [] prs) := fold_KT a1 .nil
      have kt2 : KT (upd H s.heap.objs.size (.dT (kvs.foldl (fun acc q => putK acc q.1 q.2) []))) (kvs.foldl (fun acc q => putK acc q.1 q.2) []) (storeAll [] prs) := kt.keeps fun c ys ec => by
        rw [upd_ne (ne_of_none ec hn)]; exact ec
      refine ⟨.ref s.heap.objs.size, _, I.laid (t' := tk) k (Nat.le_refl _) (show ObjOk X.prog X.w _ _ _ (.dT (kvs.foldl (fun acc q => putK acc q.1 q.2) [])) from ⟨hlen, hm, _, kt2, ob, es, ep, g1, g2, g3, g4, g6⟩), rfl, q _ _ ?_⟩
      refine ⟨Hf, [s.heap.objs.size], upd_sub hn, fun _ _ e => e, fun a o e => upd_sub hn a o (sb a o e), fun _ _ e => .inl e, by simp, fun b hb => ?_, mk_dT upd_same f1 (RVs.of_RFs f2)⟩
      rw [List.mem_singleton.mp hb]
      exact ⟨hn, sb.none hn⟩
end
end Mini
set_option linter.all false
set_option maxRecDepth 100000
/-! M3k: len(set(tuple)). -/
namespace Mini
open PySem PySem.Spec PyProof.Rows L2
theorem dedupI_mem : ∀ {l : List Int} {a : Int}, a ∈ dedupI l ↔ a ∈ l
  | [], a => by simp [dedupI]
  | b :: l, a => by
    unfold dedupI
    split
    · rename_i h
      rw [dedupI_mem, List.mem_cons]
      constructor
      · exact .inr
      · rintro (rfl | z)
        · exact h
        · exact z
    · rw [List.mem_cons, List.mem_cons, dedupI_mem]
theorem dedupI_nodup : ∀ l : List Int, (dedupI l).Nodup
  | [] => List.nodup_nil
  | b :: l => by
    unfold dedupI
    split
    · exact dedupI_nodup l
    · rename_i h
      exact List.nodup_cons.mpr ⟨fun z => h (dedupI_mem.mp z), dedupI_nodup l⟩
theorem nodup_same_len {α : Type} [DecidableEq α] {l m : List α} (h1 : l.Nodup) (h2 : m.Nodup) (h : ∀ a, a ∈ l ↔ a ∈ m) : l.length = m.length :=
  Nat.le_antisymm (List.Nodup.length_le_of_subset h1 fun a ha => (h a).mp ha) (List.Nodup.length_le_of_subset h2 fun a ha => (h a).mpr ha)
section
variable {X : Cx}
def tLset (K : PySem.W.Frag) (ta : TE) : TE := fun σ H Q => ta σ H fun x H1 => ∃ (b : Addr) (ns : List Int), x = .ref b ∧ SqT K H1 b (ns.map V.int) ∧ ns.length ≤ 1000 ∧ Q (.int ((dedupI ns).length : Nat)) H1
theorem pe_lset {a : Expr} {ta : TE} {p p2 q pos : Pos} (hc : X.calm = true) (hg : Gl X "len") (hm : X.mg "len" = none) (hg2 : Gl X "set") (hm2 : X.mg "set" = none) (ha : PE X a ta) (na : starEach [a] X.env = (false, eval a X.env) :: starEach [] X.env) :
    PE X (.Call (.Name "len" p) [.Call (.Name "set" p2) [a] [] q] [] pos) (tLset X.K ta) := by
  refine ⟨fun pins s σ H Q I h => Call_ (ld_blt I hg hm boot_len (PyProof.Rows.callWith_builtin1 (PyProof.Rows.args_cons ?_ rfl) rfl rfl))⟩
  refine Call_ (ld_blt I hg2 hm2 PyProof.Rows.boot_set (PyProof.Rows.callWith_type1 (PyProof.Rows.args_cons (thn (ha.run pins s σ H _ I h) fun v s1 told => PyProof.Rows.args_nil ?_) na) na rfl))
  obtain ⟨x, H1, I1, r1, b, ns, rfl, hq, hl, q1⟩ := told
  cases r1
  obtain ⟨its, rv, pt, hz⟩ := I1.tuple hq
  have hi : IntsAre its.toArray.toList ns := ints_of_vals rv
  refine call_set_tupI ns (I1.ok.hd hc) (show s1.heap.IsTuple b its.toArray from pt) hi (by unfold scanBound; omega) fun h' tk c R1 hcn k => ?_
  obtain ⟨o, es, ep, t, ho, hex, hdt, g, nd, hm3, hb, hf, hn, hr, hl2⟩ := R1
  have hlen : es.size = (dedupI ns).length := by
    have e1 : (es.toList.map L2.keyOf).length = (dedupI ns).length := nodup_same_len nd (dedupI_nodup ns) fun j => by
      rw [dedupI_mem, ← hm3 j]; simp
    simpa using e1
  refine PyProof.Rows.args_nil ?_
  have I2 : L2.Inv X pins σ H1 { s1 with heap := h', toks := tk } := I1.kept k
  have hsb : scanBound ≤ 2 ^ 40 := by decide
  refine call_len_set (s := { s1 with heap := h', toks := tk }) ho hex hdt hf (by omega) ⟨.int _, H1, I2.tok _, ⟨_, rfl⟩, ?_⟩
  rw [hlen]
  exact q1
end
section
variable {K : PySem.W.Frag} {Φ : Phi} {σ : L2.St} {H : Hp} {Q : VK}
theorem im_lset {a : CE} (h : tE K Φ (.b1 .lenset a) σ H Q) : tLset K (tE K Φ a) σ H Q :=
  tE_mono (im_op1 (a := a) (k := b1D .lenset) (fun ρ => by simp only [den]) (by simp only [CE.quiet]) h) fun v H' ⟨Hf, d, r, sb, ho, hk, hq⟩ => by
    cases d <;> try (exact absurd (show (none : Option D) = some r from hk) (fun z => nomatch z))
    case tup xs =>
      obtain ⟨ns, e, hk⟩ := Option.bind_eq_some_iff.mp (show ((intsOf xs).bind fun ns => if ns.length ≤ 1000 then some (D.int (dedupI ns).length) else none) = some r from hk)
      split at hk
      · rename_i hn
        cases hk
        obtain ⟨a1, vs, rfl, h1, h2⟩ := ho.tup
        refine ⟨a1, ns, rfl, ?_, hn, hq _ _ (.int sb)⟩
        rw [← RFs.ints h2 e]
        exact h1.sq sb
      · cases hk
end
end Mini
set_option linter.all false
set_option maxRecDepth 100000
/-! M6b: a term that is checked against the text is read as the text is. -/
namespace Mini
open PySem PySem.Spec PyProof.Rows L2
/-! ### scopes -/
/-- sc2 runs where sc is written -/
structure Sim (sc sc2 : Scope) : Prop where
  loc : ∀ x, sc.names.lookup x = some .local → sc2.names.lookup x = some .local
  cell : ∀ x, sc.names.lookup x = some .cell → sc2.names.lookup x = some .cell
  free : ∀ x, sc.names.lookup x = some .free → sc2.names.lookup x = some .free ∨ sc2.names.lookup x = some .cell
  glo : ∀ x, sc.names.lookup x = some .globalImplicit → sc2.names.lookup x = some .globalImplicit
  kind : sc2.kind = sc.kind
theorem Sim.refl (sc : Scope) : Sim sc sc := ⟨fun _ h => h, fun _ h => h, fun _ h => .inl h, fun _ h => h, rfl⟩
theorem relS_free {sc : Scope} : ∀ {names : List (Str × NameKind)} {x : Str}, names.lookup x = some .free →
    (names.map fun (n, k) => if (k == NameKind.free && sc.kind == .function && sc.names.lookup n == some .cell) then (n, NameKind.cell) else (n, k)).lookup x = some .free ∨
    (names.map fun (n, k) => if (k == NameKind.free && sc.kind == .function && sc.names.lookup n == some .cell) then (n, NameKind.cell) else (n, k)).lookup x = some .cell
  | [], _, h => by simp at h
  | (n, k₀) :: r, x, h => by
    have ih := @relS_free sc r x
    simp only [List.map_cons]
    cases hx : x == n with
    | true =>
      simp only [List.lookup_cons, hx] at h
      cases h
      split
      · right; simp only [List.lookup_cons, hx]
      · left; simp only [List.lookup_cons, hx]
    | false =>
      simp only [List.lookup_cons, hx] at h
      have hm : ∀ (p : Str × NameKind) (l : List (Str × NameKind)), p.1 = n → (p :: l).lookup x = l.lookup x := fun p l e => by
        obtain ⟨a, b⟩ := p
        subst e
        simp only [List.lookup_cons, hx]
      rw [hm _ _ (by split <;> rfl)]
      exact ih h
theorem Sim.rel (sc2 sc : Scope) : Sim sc2 (relS sc2 sc) :=
  ⟨fun _ h => lookup_relS_keep (by decide) h, fun _ h => lookup_relS_keep (by decide) h, fun _ h => relS_free h, fun _ h => lookup_relS_keep (by decide) h, rfl⟩
theorem BlkOk.sim {N : List Str} {sc sc' sc2 : Scope} {own : List (Str × Nat)} (s : Sim sc sc') (h : BlkOk N sc sc2 own) : BlkOk N sc' sc2 own :=
  ⟨h.kind, h.uniq, h.ix, fun y hy e => by
    rcases h.free y hy e with z | z
    · exact .inl (s.cell _ z)
    · exact (s.free _ z).symm, h.own⟩
/-- what is known of the running text -/
structure Cxt (ck : Ck) (N : List Str) (Φ : Phi) (sc : Scope) (X : Cx) : Prop where
  calm : X.calm = true
  n : X.N = N
  nd : N.Nodup
  sim : Sim sc X.env.scope
  gu : X.A.guards = some []
  un : X.A.units + 200 < cLine
  sys : Sys X
  fnl : ∀ x, Loc sc x → X.fn x = true ∨ X.env.scope.names.lookup x = some .local
  fns : ∀ f x io, ck.fs[f]? = some (x, io) → ∃ fa fd ps k, X.mg x = some (.ref fa) ∧ PySem.W.keepIn X.K (.ref fa) = true ∧ Binds X.K fd ps [] ∧ Room k X.A ∧ FnG X.prog X.w X.K X.mg X.base k fa fd ps (spF X.K io (Φ f))
  cns : ∀ x i, ck.cs.lookup x = some (.int i) → ∃ u, X.mg x = some u ∧ RelV (.int i) u
  blt : ∀ x, x ∈ bltNames → X.mg x = none
section
variable {ck : Ck} {N : List Str} {Φ : Phi} {sc : Scope} {X : Cx}
/-- within a comprehension's block -/
theorem Cxt.blk (c : Cxt ck N Φ sc X) (sc2 : Scope) (s : Shared) (H : Hp) (C : Addr) (cl : List (Str × Addr)) (fp : List Addr) : Cxt ck N Φ sc2 (X.blk s H sc2 (compEnvC sc2 cl C X.env) fp) :=
  ⟨c.calm, c.n, c.nd, Sim.rel sc2 X.env.scope, c.gu, c.un, c.sys, fun x h => by
    rcases h with h | h
    · exact .inr ((Sim.rel sc2 X.env.scope).loc x h)
    · exact .inl (by show (sc2.names.lookup x == some .cell) = true; rw [h]; rfl), c.fns, c.cns, c.blt⟩
theorem Cxt.slot (c : Cxt ck N Φ sc X) {i : Nat} {x : Str} (h : slotK N sc i x = true) : X.N[i]? = some x ∧ Vis X.env.scope x ∧ (x == ("__debug__" : Str)) = false ∧ (x == ("__classdict__" : Str)) = false := by
  simp only [slotK, Bool.and_eq_true, Bool.or_eq_true, decide_eq_true_eq, Bool.not_eq_true'] at h
  obtain ⟨⟨⟨h1, h2⟩, h3⟩, h4⟩ := h
  refine ⟨by rw [c.n]; exact h1, ?_, h3, h4⟩
  rcases h2 with (z | z) | z
  · exact .inl (c.sim.loc _ z)
  · exact .inr (.inl (c.sim.cell _ z))
  · rcases c.sim.free _ z with y | y
    · exact .inr (.inr y)
    · exact .inr (.inl y)
theorem Cxt.glob (c : Cxt ck N Φ sc X) {x : Str} (h : gK sc x = true) : Gl X x ∧ (x == ("__debug__" : Str)) = false := by
  simp only [gK, Bool.and_eq_true, decide_eq_true_eq, Bool.not_eq_true'] at h
  exact ⟨c.sim.glo x h.1, h.2⟩
theorem Cxt.bltn (c : Cxt ck N Φ sc X) {x : Str} (h : bK sc x = true) : Gl X x ∧ X.mg x = none ∧ (x == ("__debug__" : Str)) = false := by
  simp only [bK, Bool.and_eq_true, decide_eq_true_eq] at h
  obtain ⟨h1, h2⟩ := c.glob h.1
  exact ⟨h1, c.blt x h.2, h2⟩
theorem Cxt.set (c : Cxt ck N Φ sc X) {i : Nat} {x : Str} (h : setK_ N sc i x = true) : X.N[i]? = some x ∧ Loc X.env.scope x ∧ (X.fn x = true ∨ X.env.scope.names.lookup x = some .local) := by
  simp only [setK_, Bool.and_eq_true, Bool.or_eq_true, decide_eq_true_eq] at h
  refine ⟨by rw [c.n]; exact h.1, ?_, c.fnl x h.2⟩
  rcases h.2 with z | z
  · exact .inl (c.sim.loc _ z)
  · exact .inr (c.sim.cell _ z)
end
/-! ### shapes -/
theorem asName_eq {ex : Expr} {x : Str} (h : asName ex = some x) : ∃ p, ex = .Name x p := by
  cases ex <;> simp only [asName] at h <;> cases h; exact ⟨_, rfl⟩
theorem asConst_eq {ex : Expr} {x : Const} (h : asConst ex = some x) : ∃ k p, ex = .Constant x k p := by
  cases ex <;> simp only [asConst] at h <;> cases h; exact ⟨_, _, rfl⟩
theorem asBin_eq {ex a b : Expr} {o : Operator} (h : asBin ex = some (a, o, b)) : ∃ p, ex = .BinOp a o b p := by
  cases ex <;> simp only [asBin] at h <;> cases h; exact ⟨_, rfl⟩
theorem asUn_eq {ex a : Expr} {o : UnaryOp} (h : asUn ex = some (o, a)) : ∃ p, ex = .UnaryOp o a p := by
  cases ex <;> simp only [asUn] at h <;> cases h; exact ⟨_, rfl⟩
theorem asBool_eq {ex : Expr} {es : List Expr} {o : BoolOp} (h : asBool ex = some (o, es)) : ∃ p, ex = .BoolOp o es p := by
  cases ex <;> simp only [asBool] at h <;> cases h; exact ⟨_, rfl⟩
theorem asIf_eq {ex c a b : Expr} (h : asIf ex = some (c, a, b)) : ∃ p, ex = .IfExp c a b p := by
  cases ex <;> simp only [asIf] at h <;> cases h; exact ⟨_, rfl⟩
theorem asCmp_eq {ex a b : Expr} {o : CmpOp} (h : asCmp ex = some (a, o, b)) : ∃ p, ex = .Compare a [o] [b] p := by
  unfold asCmp at h; split at h <;> cases h; exact ⟨_, rfl⟩
theorem asChain_eq {ex a b c : Expr} {o o2 : CmpOp} (h : asChain ex = some (a, o, o2, b, c)) : ∃ p, ex = .Compare a [o, o2] [b, c] p := by
  unfold asChain at h; split at h <;> cases h; exact ⟨_, rfl⟩
theorem asTup_eq {ex : Expr} {es : List Expr} (h : asTup ex = some es) : ∃ k p, ex = .Tuple es k p := by
  cases ex <;> simp only [asTup] at h <;> cases h; exact ⟨_, _, rfl⟩
theorem asLst_eq {ex : Expr} {es : List Expr} (h : asLst ex = some es) : ∃ p, ex = .List es p := by
  cases ex <;> simp only [asLst] at h <;> cases h; exact ⟨_, rfl⟩
theorem asDict_eq {ex : Expr} {ks : List (Option Expr)} {vs : List Expr} (h : asDict ex = some (ks, vs)) : ∃ p, ex = .Dict ks vs p := by
  cases ex <;> simp only [asDict] at h <;> cases h; exact ⟨_, rfl⟩
theorem asSub_eq {ex a b : Expr} (h : asSub ex = some (a, b)) : ∃ p, ex = .Subscript a b p := by
  cases ex <;> simp only [asSub] at h <;> cases h; exact ⟨_, rfl⟩
theorem asSlice_eq {ex : Expr} {l h s : Option Expr} (e : asSlice ex = some (l, h, s)) : ∃ p, ex = .Slice l h s p := by
  cases ex <;> simp only [asSlice] at e <;> cases e; exact ⟨_, rfl⟩
theorem asCall_eq {ex : Expr} {x : Str} {es : List Expr} (h : asCall ex = some (x, es)) : ∃ p q, ex = .Call (.Name x p) es [] q := by
  unfold asCall at h; split at h <;> cases h; exact ⟨_, _, rfl⟩
theorem asMeth_eq {ex o : Expr} {m : Str} {es : List Expr} (h : asMeth ex = some (o, m, es)) : ∃ ap cp, ex = .Call (.Attribute o m ap) es [] cp ∧ (ap.endLine == cp.line) = true := by
  unfold asMeth at h
  split at h
  · split at h
    · rename_i hl; cases h; exact ⟨_, _, rfl, hl⟩
    · cases h
  · cases h
theorem asLc_eq {ex e t i : Expr} {fs : List Expr} {sc : Scope} (h : asLc ex = some (e, t, i, fs, sc)) : ∃ p, ex = .ListComp e [⟨t, i, fs, 0⟩] sc p := by
  unfold asLc at h; split at h <;> cases h; exact ⟨_, rfl⟩
theorem star_nst {e : Expr} {es : List Expr} {env : PySem.Env} (h : nst e = true) : starEach (e :: es) env = (false, eval e env) :: starEach es env := by
  cases e <;> first | rfl | (simp only [nst] at h; cases h)
theorem plain_ix {b : Expr} (h : plainX b = true) : PlainIx b := fun o i => by
  cases b <;> first | rfl | (simp only [plainX] at h; cases h)
theorem plain_mark {b : Expr} {op : CmpOp} (h : plainX b = true) : behindInMarks op b = false := by
  cases b <;> first | rfl | (simp only [plainX] at h; cases h)
theorem plain_fold {b : Expr} {env : PySem.Env} (h : plainX b = true) : ∀ x, foldedSetIterable b env x = pure x := fun x => by
  cases b <;> first | rfl | (simp only [plainX] at h; cases h)
theorem base_attr {o : Expr} {m : Str} {env : PySem.Env} (h : baseX o = true) : attributeBase o m env (eval o env) = eval o env := by
  cases o <;> first | rfl | (simp only [baseX] at h; cases h)
theorem PE.by_ {X : Cx} {e : Expr} {t t' : TE} (h : PE X e t) (i : ∀ σ H Q, t' σ H Q → t σ H Q) : PE X e t' := ⟨fun pins s σ H Q I q => h.run pins s σ H Q I (i σ H Q q)⟩
theorem PT.by_ {X : Cx} {e : Expr} {t t' : TT} (h : PT X e t) (i : ∀ σ H Q, t' σ H Q → t σ H Q) : PT X e t' := ⟨fun pins s σ H Q I q => h.run pins s σ H Q I (i σ H Q q)⟩
theorem PW.by_ {X : Cx} {e : Expr} {t t' : TT} (h : PW X e t) (i : ∀ σ H Q, t' σ H Q → t σ H Q) : PW X e t' := ⟨fun wh pins s σ H Q I q => h.run wh pins s σ H Q I (i σ H Q q)⟩
theorem PA.by_ {X : Cx} {e : List Expr} {t t' : TA} (h : PA X e t) (i : ∀ σ H Q, t' σ H Q → t σ H Q) : PA X e t' := ⟨fun p pins s σ H Q I q => h.run p pins s σ H Q I (i σ H Q q)⟩
theorem PO.by_ {X : Cx} {e : Option Expr} {t t' : TO} (h : PO X e t) (i : ∀ σ H Q, t' σ H Q → t σ H Q) : PO X e t' := ⟨fun pins s σ H Q I q => h.run pins s σ H Q I (i σ H Q q)⟩
theorem PI.by_ {X : Cx} {tg e : Expr} {t t' : TI} (h : PI X tg e t) (i : ∀ σ H Q, t' σ H Q → t σ H Q) : PI X tg e t' := ⟨fun pins s σ H Q I q => h.run pins s σ H Q I (i σ H Q q)⟩
theorem PI.or_ {X : Cx} {tg e : Expr} {t u : TI} (h : PI X tg e t) (k : PI X tg e u) : PI X tg e (fun σ H R => t σ H R ∨ u σ H R) := ⟨fun pins s σ H Q I q => q.elim (h.run pins s σ H Q I) (k.run pins s σ H Q I)⟩
theorem PS.by_ {X : Cx} {e : Stmt} {t t' : TS} (h : PS X e t) (i : ∀ D σ H, t' D σ H → t D σ H) : PS X e t' := ⟨fun pins s σ H D I q => h.run pins s σ H D I (i D σ H q)⟩
theorem PSs.by_ {X : Cx} {e : List Stmt} {t t' : TS} (h : PSs X e t) (i : ∀ D σ H, t' D σ H → t D σ H) : PSs X e t' := ⟨fun pins s σ H D I q => h.run pins s σ H D I (i D σ H q)⟩
/-- not a form with its own truth -/
def plainT : Expr → Bool
  | .UnaryOp .Not _ _ => false
  | .BoolOp _ _ _ => false
  | .IfExp _ _ _ _ => false
  | .Compare _ _ _ _ => false
  | _ => true
theorem plain_true {e : Expr} {env : PySem.Env} (h : plainT e = true) : ∀ whole, isTrue e env whole = (do let v ← whole; standAt e.pos; holding [v] (truthy v)) := fun whole => by
  cases e <;> first | rfl | (simp only [plainT] at h; cases h; done) | skip
  rename_i o a p
  cases o <;> first | rfl | (simp only [plainT] at h; cases h)
section
variable {Φ : Phi} {X : Cx}
/-- both readings of a plain form -/
theorem both {ex : Expr} {e : CE} (h : PE X ex (tE X.K Φ e)) (p : plainT ex = true) : PE X ex (tE X.K Φ e) ∧ (e.isIf = false → PT X ex (tT X.K Φ e)) :=
  ⟨h, fun _ => PT.by_ (pt_val h (plain_true p)) fun σ H Q q => tT_tB q⟩
end
end Mini
set_option linter.all false
set_option maxRecDepth 100000
/-! M6c: targets and argument lists against the text -/
namespace Mini
open PySem PySem.Spec PyProof.Rows L2
section
variable {ck : Ck} {N : List Str} {Φ : Phi} {sc : Scope} {X : Cx}
theorem set_pg {i : Nat} {x : Str} {p : Pos} (c : Cxt ck N Φ sc X) (h : setK_ N sc i x = true) : PG X (.Name x p) (gName i) := by
  obtain ⟨h1, h2, h3⟩ := c.set h
  exact pg_name (by rw [c.n]; exact c.nd) h1 h2 h3
theorem tgsK_pgs (c : Cxt ck N Φ sc X) : ∀ {is : List Nat} {es : List Expr}, tgsK N sc is es = true → PGs X es (gNames is) ∧ (assignEach es X.env).length = is.length ∧ (assignEach es X.env).findIdx? (·.1) = none
  | [], [], _ => ⟨pgs_nil, rfl, rfl⟩
  | [], _ :: _, h => by simp [tgsK] at h
  | _ :: _, [], h => by simp [tgsK] at h
  | i :: is, e :: es, h => by
    simp only [tgsK, Bool.and_eq_true] at h
    obtain ⟨h1, h2⟩ := h
    split at h1
    · rename_i x hx
      obtain ⟨p, rfl⟩ := asName_eq hx
      obtain ⟨a1, a2, a3⟩ := tgsK_pgs c h2
      have ea : assignEach (.Name x p :: es) X.env = (false, assign (.Name x p) X.env) :: assignEach es X.env := rfl
      refine ⟨pgs_cons (set_pg c h1) a1 rfl, ?_, ?_⟩
      · rw [ea, List.length_cons, List.length_cons, a2]
      · rw [ea, List.findIdx?_cons, a3]; rfl
    · cases h1
theorem tgK_pg (c : Cxt ck N Φ sc X) {is : List Nat} {e : Expr} (h : tgK N sc is e = true) : PG X e (gT X.K is) := by
  unfold tgK at h
  split at h
  · rename_i es he
    obtain ⟨k, p, rfl⟩ := asTup_eq he
    simp only [Bool.and_eq_true, decide_eq_true_eq] at h
    obtain ⟨h1, h2⟩ := h
    obtain ⟨a1, a2, a3⟩ := tgsK_pgs c h2
    have e : gT X.K is = gTup X.K is.length (gNames is) := by
      unfold gT; split
      · simp at h1
      · rfl
    rw [e]
    exact pg_tup c.calm a1 a2 a3
  · match is, h with
    | [], h => simp [tgsK] at h
    | [i], h9 =>
      simp only [tgsK, Bool.and_true] at h9
      split at h9
      · rename_i x hx
        obtain ⟨p, rfl⟩ := asName_eq hx
        exact set_pg c h9
      · cases h9
    | _ :: _ :: _, h => simp [tgsK] at h
theorem slot_pe {i : Nat} {x : Str} {p : Pos} (c : Cxt ck N Φ sc X) (h : slotK N sc i x = true) : PE X (.Name x p) (tVar i) := by
  obtain ⟨h1, h2, h3, h4⟩ := c.slot h
  exact pe_var h1 h2 h3 h4
theorem nst_star {e : Expr} (h : nst e = true) : starEach [e] X.env = [(false, eval e X.env)] := star_nst h
theorem nst_any {pos : Pos} : ∀ {es : List Expr}, (∀ e ∈ es, nst e = true) → (backTo pos (starEach es X.env)).any (·.1) = false
  | [], _ => rfl
  | e :: es, h => by
    rw [star_nst (h e (by simp))]
    show (((false, eval e X.env)) :: backTo pos (starEach es X.env)).any (·.1) = false
    rw [List.any_cons, nst_any fun a ha => h a (by simp [ha])]
    rfl
theorem plain_marks {op op2 : CmpOp} {b c : Expr} (h : plainX c = true) : lastMarks [op, op2] [b, c] = false := plain_mark h
theorem chkA_nst : ∀ {as : CA} {es : List Expr}, chkA ck N sc as es = true → ∀ e ∈ es, nst e = true
  | .nil, [], _ => fun e h => nomatch h
  | .nil, _ :: _, h => by simp [chkA] at h
  | .val a as, [], h => by simp [chkA] at h
  | .val a as, x :: r, h => by
    simp only [chkA, Bool.and_eq_true] at h
    exact fun e he => (List.mem_cons.mp he).elim (fun q => q ▸ h.1.1) (chkA_nst h.2 e)
  | .io i as, [], h => by simp [chkA] at h
  | .io i as, x :: r, h => by
    simp only [chkA, Bool.and_eq_true] at h
    refine fun e he => (List.mem_cons.mp he).elim (fun q => ?_) (chkA_nst h.2 e)
    subst q
    obtain ⟨h1, _⟩ := h
    split at h1
    · rename_i y hy; obtain ⟨p, rfl⟩ := asName_eq hy; rfl
    · cases h1
  | .bor i as, [], h => by simp [chkA] at h
  | .bor i as, x :: r, h => by
    simp only [chkA, Bool.and_eq_true] at h
    refine fun e he => (List.mem_cons.mp he).elim (fun q => ?_) (chkA_nst h.2 e)
    subst q
    obtain ⟨h1, _⟩ := h
    split at h1
    · rename_i y hy; obtain ⟨p, rfl⟩ := asName_eq hy; rfl
    · cases h1
theorem chkEs_nst : ∀ {es : CEs} {xs : List Expr}, chkEs ck N sc es xs = true → ∀ e ∈ xs, nst e = true
  | .nil, [], _ => fun e h => nomatch h
  | .nil, _ :: _, h => by simp [chkEs] at h
  | .cons a as, [], h => by simp [chkEs] at h
  | .cons a as, x :: r, h => by
    simp only [chkEs, Bool.and_eq_true] at h
    exact fun e he => (List.mem_cons.mp he).elim (fun q => q ▸ h.1.1) (chkEs_nst h.2 e)
end
end Mini
set_option linter.all false
set_option maxRecDepth 100000
/-! M6d: expressions against the text -/
namespace Mini
open PySem PySem.Spec PyProof.Rows L2
theorem int_cb : (X : Cx) → CallR X (.type "int") (rB1 X.K .int) := fun X => cb_int
/-- a one-argument builtin of the list -/
theorem b1_pe {ck : Ck} {N : List Str} {Φ : Phi} {sc : Scope} {X : Cx} (c : Cxt ck N Φ sc X) {b : B1} {x : Str} {p q : Pos} {e : Expr} {t : TE} (hn : b ≠ .lenset) (hx : x = b.nm) (hb : bK sc x = true) (he : nst e = true) (h : PE X e t) :
    PE X (.Call (.Name x p) [e] [] q) (tCB (rB1 X.K b) (tCons t tNil)) := by
  obtain ⟨g1, g2, g3⟩ := c.bltn hb
  have pa : PA X [e] (tCons t tNil) := pa_cons h pa_nil (star_nst he)
  have hu := c.un
  subst hx
  cases b with
  | len => exact pe_callB cb_len g1 g2 boot_len pa (by decide) g3 (star_nst he) rfl
  | sorted => exact pe_callB (cb_sorted c.calm) g1 g2 boot_sorted pa (by decide) g3 (star_nst he) rfl
  | tuple => exact pe_callTy cb_tuple g1 g2 boot_tuple pa (by decide) g3 (star_nst he) rfl
  | rtuple => exact pe_callTy cb_rtuple g1 g2 boot_tuple pa (by decide) g3 (star_nst he) rfl
  | list => exact pe_callTy cb_list g1 g2 boot_list pa (by decide) g3 (star_nst he) rfl
  | sum => exact pe_callB (cb_sum c.calm) g1 g2 boot_sum pa (by decide) g3 (star_nst he) rfl
  | all => exact pe_callB (cb_all c.calm) g1 g2 boot_all pa (by decide) g3 (star_nst he) rfl
  | any => exact pe_callB (cb_any c.calm) g1 g2 boot_any pa (by decide) g3 (star_nst he) rfl
  | max => exact pe_callB (cb_max c.calm) g1 g2 boot_max pa (by decide) g3 (star_nst he) rfl
  | min => exact pe_callB (cb_min c.calm) g1 g2 boot_min pa (by decide) g3 (star_nst he) rfl
  | int => exact pe_callTy cb_int g1 g2 boot_int pa (by decide) g3 (star_nst he) rfl
  | str => exact pe_callTy (cb_str c.sys c.gu (by omega)) g1 g2 boot_str pa (by decide) g3 (star_nst he) rfl
  | repr => exact pe_callB (cb_repr c.sys c.gu (by omega)) g1 g2 boot_repr pa (by decide) g3 (star_nst he) rfl
  | abs => exact pe_callB cb_abs g1 g2 boot_abs pa (by decide) g3 (star_nst he) rfl
  | dictT => exact pe_callTy (cb_dictT c.calm (by omega)) g1 g2 boot_dict pa (by decide) g3 (star_nst he) rfl
  | lenset => exact absurd rfl hn
theorem mth_few {X : Cx} {cp : Pos} {es : List Expr} (hs : ∀ e ∈ es, nst e = true) (hl : es.length ≤ 3) : ((backTo cp (starEach es X.env)).all (fun x => !x.1) && (backToKw cp (keywordEach [] X.env)).all (fun x => x.1.isSome)
      && decide (es.length + ([] : List Keyword).length + (if ([] : List Keyword).isEmpty then 0 else 1) < 30)) = true := by
  have h1 : (backTo cp (starEach es X.env)).all (fun x => !x.1) = true := by
    have := nst_any (X := X) (pos := cp) hs
    rw [List.all_eq_not_any_not]
    simpa using this
  rw [h1]
  simp only [Bool.true_and, Bool.and_eq_true, decide_eq_true_eq]
  refine ⟨rfl, ?_⟩
  simp only [List.length_nil, List.isEmpty_nil, if_true]
  omega
/-- methods -/
theorem mth_pe {ck : Ck} {N : List Str} {Φ : Phi} {sc : Scope} {X : Cx} (c : Cxt ck N Φ sc X) {m : Mt} {o : Expr} {as : List Expr} {to : TE} {ta : TA} {ap cp : Pos} (hb : baseX o = true) (hl : (ap.endLine == cp.line) = true) (har : as.length = m.ar) (hs : ∀ e ∈ as, nst e = true)
    (ho : PE X o to) (ha : PA X as ta) : PE X (.Call (.Attribute o m.nm ap) as [] cp) (fun σ H Q => tBM X.K m.T (rMt X.K m) to ta σ H Q ∧ (m = .pop → tBM0 X.K m.T (rMt X.K m) to σ H Q)) := by
  have hu := c.un
  cases m with
  | append =>
    match as, har, hs, ha with
    | [e], _, hs, ha => exact PE.by_ (pe_bm F.plainAttrs_list F.slot_list_append F.type_list_append mt_D_append ho ha (base_attr hb) (mth_few hs (by simp)) hl (star_nst (hs e (by simp))) rfl) fun σ H Q q => q.1
  | extend =>
    match as, har, hs, ha with
    | [e], _, hs, ha => exact PE.by_ (pe_bm F.plainAttrs_list F.slot_list_extend F.type_list_extend mt_D_extend ho ha (base_attr hb) (mth_few hs (by simp)) hl (star_nst (hs e (by simp))) rfl) fun σ H Q q => q.1
  | popAt =>
    match as, har, hs, ha with
    | [e], _, hs, ha => exact PE.by_ (pe_bm F.plainAttrs_list F.slot_list_pop F.type_list_pop mt_D_popAt ho ha (base_attr hb) (mth_few hs (by simp)) hl (star_nst (hs e (by simp))) rfl) fun σ H Q q => q.1
  | remove =>
    match as, har, hs, ha with
    | [e], _, hs, ha => exact PE.by_ (pe_bm F.plainAttrs_list F.slot_list_remove F.type_list_remove mt_D_remove ho ha (base_attr hb) (mth_few hs (by simp)) hl (star_nst (hs e (by simp))) rfl) fun σ H Q q => q.1
  | dpop =>
    match as, har, hs, ha with
    | [e, g], _, hs, ha => exact PE.by_ (pe_bm F.plainAttrs_dict F.slot_dict_pop F.type_dict_pop (mt_D_dpop (by omega)) ho ha (base_attr hb) (mth_few hs (by simp)) hl (star_nst (hs e (by simp))) (nst_any fun a ha => hs a (by simp at ha; simp [ha]))) fun σ H Q q => q.1
  | pop =>
    match as, har, hs, ha with
    | [], _, hs, ha => exact PE.by_ (pe_bm0 F.plainAttrs_list F.slot_list_pop F.type_list_pop mt_D_pop ho (base_attr hb) hl) fun σ H Q q => q.2 rfl
end Mini
set_option linter.all false
set_option maxRecDepth 100000
/-! M6e: what is checked, walks -/
namespace Mini
open PySem PySem.Spec PyProof.Rows L2
theorem boot_ty (t : Ty) : bootBuiltins t.tn = some (.type t.nm) := by
  cases t with
  | int => exact boot_int
  | bool => exact boot_bool
  | tuple => exact boot_tuple
  | str => exact boot_str
theorem tP_mono {K : PySem.W.Frag} {Φ : Phi} {p : CP} {σ : L2.St} {H : Hp} {Q Q' : VK} (h : tP K Φ p σ H Q) (hq : ∀ v H', Q v H' → Q' v H') : tP K Φ p σ H Q' := by
  obtain ⟨Hf, F, ρ, s, sl, h⟩ := h
  refine ⟨Hf, F, ρ, s, sl, ?_⟩
  cases q : denP Φ p ρ with
  | ok ks ρ' => rw [q] at h; exact fun v H' w => hq _ _ (h v H' w)
  | exc x ρ' => rw [q] at h; exact h
  | stuck => rw [q] at h; exact h
theorem no_if {c : CE} (h : (!c.isIf) = true) : c.isIf = false := by simpa using h
section
variable {ck : Ck} {N : List Str} {Φ : Phi}
mutual
theorem sndE : ∀ (e : CE) {sc : Scope} {X : Cx} {ex : Expr}, Cxt ck N Φ sc X → chkE ck N sc e ex = true → PE X ex (tE X.K Φ e) ∧ (e.isIf = false → PT X ex (tT X.K Φ e))
  | .var i, sc, X, ex, c, h => by
    simp only [chkE] at h
    split at h
    · rename_i x hx
      obtain ⟨p, rfl⟩ := asName_eq hx
      exact both (PE.by_ (slot_pe c h) fun σ H Q q => im_var q) rfl
    · cases h
  | .mv i, sc, X, ex, c, h => by
    simp only [chkE] at h
    split at h
    · rename_i x hx
      obtain ⟨p, rfl⟩ := asName_eq hx
      exact both (PE.by_ (slot_pe c h) fun σ H Q q => im_mv q) rfl
    · cases h
  | .frz i, sc, X, ex, c, h => by
    simp only [chkE] at h
    split at h
    · rename_i x hx
      obtain ⟨p, rfl⟩ := asName_eq hx
      exact both (PE.by_ (slot_pe c h) fun σ H Q q => im_frz q) rfl
    · cases h
  | .cst d, sc, X, ex, c, h => by
    simp only [chkE] at h
    split at h
    · rename_i x hx
      obtain ⟨k, p, rfl⟩ := asConst_eq hx
      unfold constD at h
      split at h
      · exact both (PE.by_ pe_non fun σ H Q q => im_cst (fun _ => by simp only [RF]) q) rfl
      · cases eq_of_beq h
        exact both (PE.by_ pe_bl fun σ H Q q => im_cst (fun _ => by simp only [RF]) q) rfl
      · cases of_decide_eq_true h
        exact both (PE.by_ pe_int fun σ H Q q => im_cst (fun _ => by simp only [RF]) q) rfl
      · cases of_decide_eq_true h
        exact both (PE.by_ pe_str fun σ H Q q => im_cst (fun _ => by simp only [RF]) q) rfl
      · cases h
    · cases h
  | .glb x d, sc, X, ex, c, h => by
    simp only [chkE] at h
    split at h
    · rename_i y hy
      obtain ⟨p, rfl⟩ := asName_eq hy
      simp only [Bool.and_eq_true, decide_eq_true_eq] at h
      obtain ⟨⟨rfl, h1⟩, h2⟩ := h
      obtain ⟨g1, g2⟩ := c.glob h1
      split at h2
      · rename_i i hi
        obtain ⟨u, hu, ru⟩ := c.cns _ _ hi
        split at h2
        · cases of_decide_eq_true h2
          exact both (PE.by_ (pe_glob g1 hu ru g2) fun σ H Q q => im_glb (fun _ => by simp only [RF]) q) rfl
        · cases h2
      · cases h2
    · cases h
  | .bin op a b, sc, X, ex, c, h => by
    simp only [chkE] at h
    split at h
    · rename_i l o r hx
      obtain ⟨p, rfl⟩ := asBin_eq hx
      simp only [Bool.and_eq_true, decide_eq_true_eq] at h
      obtain ⟨⟨rfl, h1⟩, h2⟩ := h
      exact both (PE.by_ (pe_op op_bin (sndE a c h1).1 (sndE b c h2).1) fun σ H Q q => im_bin q) rfl
    · cases h
  | .neg a, sc, X, ex, c, h => by
    simp only [chkE] at h
    split at h
    · rename_i e hx
      obtain ⟨p, rfl⟩ := asUn_eq hx
      exact both (PE.by_ (pe_un un_neg (sndE a c h).1) fun σ H Q q => im_neg q) rfl
    · cases h
  | .not a, sc, X, ex, c, h => by
    simp only [chkE] at h
    split at h
    · rename_i e hx
      obtain ⟨p, rfl⟩ := asUn_eq hx
      simp only [Bool.and_eq_true] at h
      obtain ⟨i1, i2⟩ := sndE a c h.1
      exact ⟨PE.by_ (pe_not i1) fun σ H Q q => im_not q, fun _ => PT.by_ (pt_not (i2 (no_if h.2))) fun σ H Q q => im_notT q⟩
    · cases h
  | .cmp op a b, sc, X, ex, c, h => by
    simp only [chkE] at h
    split at h
    · rename_i l o r hx
      obtain ⟨p, rfl⟩ := asCmp_eq hx
      simp only [Bool.and_eq_true, decide_eq_true_eq] at h
      obtain ⟨⟨⟨rfl, h0⟩, h1⟩, h2⟩ := h
      have hu := c.un
      have ho := op_cmp (X := X) (op := o) (by omega)
      have i1 := (sndE a c h1).1
      have i2 := (sndE b c h2).1
      exact ⟨PE.by_ (pe_cmpR ho i1 i2 (plain_mark h0)) fun σ H Q q => im_cmp q, fun _ => PT.by_ (pt_cmpR ho i1 i2 (plain_mark h0)) fun σ H Q q => im_cmp (tT_tB q)⟩
    · cases h
  | .chn op op2 a b d, sc, X, ex, c, h => by
    simp only [chkE] at h
    split at h
    · rename_i l o o2 m r hx
      obtain ⟨p, rfl⟩ := asChain_eq hx
      simp only [Bool.and_eq_true, decide_eq_true_eq] at h
      obtain ⟨⟨⟨⟨⟨⟨rfl, rfl⟩, h0⟩, h00⟩, h1⟩, h2⟩, h3⟩ := h
      have hu := c.un
      have ho := op_cmp (X := X) (op := o) (by omega)
      have ho2 := op_cmp (X := X) (op := o2) (by omega)
      have i1 := (sndE a c h1).1
      have i2 := (sndE b c h2).1
      have i3 := (sndE d c h3).1
      exact ⟨PE.by_ (pe_chain ho ho2 i1 i2 i3 (plain_marks h00)) fun σ H Q q => im_chn q, fun _ => PT.by_ (pt_chain ho ho2 i1 i2 i3 (plain_marks h00)) fun σ H Q q => im_chn (tT_tB q)⟩
    · cases h
  | .bop and es, sc, X, ex, c, h => by
    simp only [chkE] at h
    split at h
    · rename_i o xs hx
      obtain ⟨p, rfl⟩ := asBool_eq hx
      simp only [Bool.and_eq_true, decide_eq_true_eq] at h
      obtain ⟨rfl, h⟩ := h
      obtain ⟨i1, i2⟩ := sndB es and p c h
      exact ⟨i1, fun _ => PW.pt i2⟩
    · cases h
  | .ifx t a b, sc, X, ex, c, h => by
    simp only [chkE] at h
    split at h
    · rename_i t2 l r hx
      obtain ⟨p, rfl⟩ := asIf_eq hx
      simp only [Bool.and_eq_true] at h
      obtain ⟨⟨⟨h0, h00⟩, h1⟩, h2⟩ := h
      exact ⟨PE.by_ (pe_ifExp ((sndE t c h0).2 (no_if h00)) (sndE a c h1).1 (sndE b c h2).1) fun σ H Q q => im_ifx q, fun q => nomatch q⟩
    · cases h
  | .tup es, sc, X, ex, c, h => by
    simp only [chkE] at h
    split at h
    · rename_i xs hx
      obtain ⟨k, p, rfl⟩ := asTup_eq hx
      simp only [Bool.and_eq_true, decide_eq_true_eq] at h
      exact both (PE.by_ (pe_tupF (sndEs es c h.1)) fun σ H Q q => im_tup h.2 q) rfl
    · cases h
  | .rtup es, sc, X, ex, c, h => by
    simp only [chkE] at h
    split at h
    · rename_i xs hx
      obtain ⟨k, p, rfl⟩ := asTup_eq hx
      simp only [Bool.and_eq_true, decide_eq_true_eq] at h
      exact both (PE.by_ (pe_tup (sndEs es c h.1)) fun σ H Q q => im_rtup h.2 q) rfl
    · cases h
  | .lst own es, sc, X, ex, c, h => by
    simp only [chkE] at h
    split at h
    · rename_i xs hx
      obtain ⟨p, rfl⟩ := asLst_eq hx
      simp only [Bool.and_eq_true, decide_eq_true_eq] at h
      exact both (PE.by_ (pe_lst (sndEs es c h.1)) fun σ H Q q => im_lst h.2 q) rfl
    · cases h
  | .dnew tk, sc, X, ex, c, h => by
    simp only [chkE] at h
    split at h
    · rename_i hx
      obtain ⟨p, rfl⟩ := asDict_eq hx
      cases tk with
      | false => exact both (PE.by_ pe_dnewK fun σ H Q q => im_dnewK q) rfl
      | true => exact both (PE.by_ pe_dnewT fun σ H Q q => im_dnewT q) rfl
    · cases h
  | .done k v, sc, X, ex, c, h => by
    simp only [chkE] at h
    split at h
    · rename_i l r hx
      obtain ⟨p, rfl⟩ := asDict_eq hx
      simp only [Bool.and_eq_true] at h
      exact both (PE.by_ (pe_disp (pps_cons (sndE k c h.1).1 (sndE v c h.2).1 pps_nil) rfl rfl (by simp) (by simp)) fun σ H Q q => im_done q) rfl
    · cases h
  | .ix a b, sc, X, ex, c, h => by
    simp only [chkE] at h
    split at h
    · rename_i l r hx
      obtain ⟨p, rfl⟩ := asSub_eq hx
      simp only [Bool.and_eq_true] at h
      obtain ⟨⟨h0, h1⟩, h2⟩ := h
      have hu := c.un
      exact both (PE.by_ (pe_ix (ix_D (by omega)) (sndE a c h1).1 (sndE b c h2).1 (plain_ix h0)) fun σ H Q q => im_ix q) rfl
    · cases h
  | .slc a lo hi, sc, X, ex, c, h => by
    simp only [chkE] at h
    split at h
    · rename_i l r hx
      obtain ⟨p, rfl⟩ := asSub_eq hx
      split at h
      · rename_i x y hs
        obtain ⟨p2, rfl⟩ := asSlice_eq hs
        simp only [Bool.and_eq_true] at h
        obtain ⟨⟨h0, h1⟩, h2⟩ := h
        exact both (PE.by_ (pe_slice sl_D (sndE a c h0).1 (sndO lo c h1) (sndO hi c h2)) fun σ H Q q => im_slc q) rfl
      · cases h
    · cases h
  | .rev a, sc, X, ex, c, h => by
    simp only [chkE] at h
    split at h
    · rename_i l r hx
      obtain ⟨p, rfl⟩ := asSub_eq hx
      split at h
      · rename_i s hs
        obtain ⟨p2, rfl⟩ := asSlice_eq hs
        split at h
        · rename_i o ho
          obtain ⟨p3, rfl⟩ := asUn_eq ho
          split at h
          · rename_i i hi
            obtain ⟨k, p4, rfl⟩ := asConst_eq hi
            simp only [Bool.and_eq_true, decide_eq_true_eq] at h
            obtain ⟨rfl, h⟩ := h
            exact both (PE.by_ (pe_revD (sndE a c h).1) fun σ H Q q => im_rev q) rfl
          · cases h
        · cases h
      · cases h
    · cases h
  | .call f as, sc, X, ex, c, h => by
    simp only [chkE] at h
    split at h
    · rename_i x es hx
      obtain ⟨p, q, rfl⟩ := asCall_eq hx
      split at h
      · rename_i y io hf
        simp only [Bool.and_eq_true, decide_eq_true_eq, Bool.not_eq_true'] at h
        obtain ⟨⟨⟨⟨⟨rfl, h1⟩, h2⟩, h3⟩, h4⟩, h5⟩ := h
        obtain ⟨g1, g2⟩ := c.glob h1
        obtain ⟨fa, fd, ps, k, m1, m2, m3, m4, m5⟩ := c.fns _ _ _ hf
        have hn := chkA_nst h5
        have pa := sndA as c h5
        cases es with
        | nil => simp at h4
        | cons e es =>
          exact both (PE.by_ (Mini.pe_callG (E := fun _ _ _ => True) m5 m4 c.gu g1 m1 m2 m3 pa g2 (star_nst (hn e (by simp))) (nst_any fun a ha => hn a (by simp [ha]))) fun σ H Q q => im_call h2 h3 q) rfl
      · cases h
    · cases h
  | .b1 b a, sc, X, ex, c, h => by
    simp only [chkE] at h
    split at h
    · split at h
      · rename_i x e hx
        obtain ⟨p, q, rfl⟩ := asCall_eq hx
        simp only [Bool.and_eq_true, decide_eq_true_eq] at h
        obtain ⟨⟨⟨rfl, h1⟩, h2⟩, h3⟩ := h
        split at h3
        · rename_i y z hz
          obtain ⟨p2, q2, rfl⟩ := asCall_eq hz
          simp only [Bool.and_eq_true, decide_eq_true_eq] at h3
          obtain ⟨⟨rfl, h4⟩, h5⟩ := h3
          obtain ⟨g1, g2, _⟩ := c.bltn h1
          obtain ⟨g3, g4, _⟩ := c.bltn h2
          exact both (PE.by_ (pe_lset c.calm g1 g2 g3 g4 (sndE a c h5).1 (star_nst h4)) fun σ H Q q => im_lset q) rfl
        · cases h3
      · cases h
    · rename_i hb
      split at h
      · rename_i x e hx
        obtain ⟨p, q, rfl⟩ := asCall_eq hx
        simp only [Bool.and_eq_true, decide_eq_true_eq] at h
        obtain ⟨⟨⟨h0, h1⟩, h2⟩, h3⟩ := h
        exact both (PE.by_ (b1_pe c (fun e => hb e) h0 h1 h2 (sndE a c h3).1) fun σ H Q q => im_b1 q) rfl
      · cases h
  | .rng tp a, sc, X, ex, c, h => by
    simp only [chkE] at h
    split at h
    · rename_i x e hx
      obtain ⟨p, q, rfl⟩ := asCall_eq hx
      simp only [Bool.and_eq_true, decide_eq_true_eq] at h
      obtain ⟨⟨⟨rfl, h1⟩, h2⟩, h3⟩ := h
      split at h3
      · rename_i y z hz
        obtain ⟨p2, q2, rfl⟩ := asCall_eq hz
        simp only [Bool.and_eq_true, decide_eq_true_eq] at h3
        obtain ⟨⟨rfl, h4⟩, h5⟩ := h3
        obtain ⟨g1, g2, _⟩ := c.bltn h1
        obtain ⟨g3, g4, _⟩ := c.bltn h2
        have pr := prg_1 (p := p2) (pos := q2) g3 g4 (sndE a c h5).1 (star_nst h4)
        cases tp with
        | true => exact both (PE.by_ (pe_tupRgF (p := p) (pos := q) c.calm g1 g2 pr rfl) fun σ H Q q => tE_mono (im_rng q) fun x H1 ⟨n, e1, e2, e3, _⟩ => ⟨n, e1, e2, e3 rfl⟩) rfl
        | false => exact both (PE.by_ (pe_listRg (p := p) (pos := q) c.calm g1 g2 pr rfl) fun σ H Q q => tE_mono (im_rng q) fun x H1 ⟨n, e1, e2, _, e3⟩ => ⟨n, e1, e2, e3 rfl⟩) rfl
      · cases h3
    · cases h
  | .b2 b a d, sc, X, ex, c, h => by
    simp only [chkE] at h
    split at h
    · rename_i x e g hx
      obtain ⟨p, q, rfl⟩ := asCall_eq hx
      simp only [Bool.and_eq_true, decide_eq_true_eq] at h
      obtain ⟨⟨⟨⟨⟨rfl, h1⟩, h2⟩, h3⟩, h4⟩, h5⟩ := h
      obtain ⟨g1, g2, g3⟩ := c.bltn h1
      have pa : PA X [e, g] (tCons (tE X.K Φ a) (tCons (tE X.K Φ d) tNil)) := pa_cons (sndE a c h4).1 (pa_cons (sndE d c h5).1 pa_nil (star_nst h3)) (star_nst h2)
      have ha : (backTo q (starEach [g] X.env)).any (·.1) = false := nst_any fun a ha => by simp at ha; subst ha; exact h3
      cases b with
      | max => exact both (PE.by_ (pe_callB (call_max2 c.calm) g1 g2 boot_max pa (by decide) g3 (star_nst h2) ha) fun σ H Q q => im_b2 q) rfl
      | min => exact both (PE.by_ (pe_callB (call_min2 c.calm) g1 g2 boot_min pa (by decide) g3 (star_nst h2) ha) fun σ H Q q => im_b2 q) rfl
    · cases h
  | .isi a t, sc, X, ex, c, h => by
    simp only [chkE] at h
    split at h
    · rename_i x e g hx
      obtain ⟨p, q, rfl⟩ := asCall_eq hx
      simp only [Bool.and_eq_true, decide_eq_true_eq] at h
      obtain ⟨⟨⟨⟨rfl, h1⟩, h2⟩, h3⟩, h4⟩ := h
      split at h4
      · rename_i y hy
        obtain ⟨p2, rfl⟩ := asName_eq hy
        simp only [Bool.and_eq_true, decide_eq_true_eq] at h4
        obtain ⟨rfl, h4⟩ := h4
        obtain ⟨g1, g2, g3⟩ := c.bltn h1
        obtain ⟨k1, k2, k3⟩ := c.bltn h4
        have pt : PE X (.Name t.tn p2) (tC (.ty t.nm)) := pe_bltn k1 k2 (boot_ty t) rfl (by cases t <;> decide) k3
        have pa : PA X [e, .Name t.tn p2] (tCons (tE X.K Φ a) (tCons (tC (.ty t.nm)) tNil)) := pa_cons (sndE a c h3).1 (pa_cons pt pa_nil rfl) (star_nst h2)
        exact both (PE.by_ (pe_callB (call_isiD t) g1 g2 boot_isinstance pa (by decide) g3 (star_nst h2) rfl) fun σ H Q q => im_isi q) rfl
      · cases h4
    · cases h
  | .cnt a b, sc, X, ex, c, h => by
    simp only [chkE] at h
    split at h
    · rename_i o m e hx
      obtain ⟨ap, cp, rfl, hl⟩ := asMeth_eq hx
      simp only [Bool.and_eq_true, decide_eq_true_eq] at h
      obtain ⟨⟨⟨⟨rfl, h1⟩, h2⟩, h3⟩, h4⟩ := h
      exact both (PE.by_ (pe_cntD (sndE a c h3).1 (sndE b c h4).1 (base_attr h1) hl (star_nst h2)) fun σ H Q q => im_cnt q) rfl
    · cases h
  | .mth p m es, sc, X, ex, c, h => by
    simp only [chkE] at h
    split at h
    · rename_i o x as hx
      obtain ⟨ap, cp, rfl, hl⟩ := asMeth_eq hx
      simp only [Bool.and_eq_true, decide_eq_true_eq] at h
      obtain ⟨⟨⟨⟨rfl, h1⟩, h2⟩, h3⟩, h4⟩ := h
      refine both (PE.by_ (mth_pe c h1 hl h2 (chkEs_nst h4) (sndP p c h3) (sndEs es c h4)) fun σ H Q q => ⟨im_mth q, fun em => ?_⟩) rfl
      subst em
      have q1 := im_mth q
      cases es with
      | nil => exact tP_mono q1 fun v H1 ⟨z1, z2⟩ => ⟨z1, im_nil z2⟩
      | cons e es =>
        cases as with
        | nil => simp [chkEs] at h4
        | cons _ _ => simp [Mt.ar] at h2
    · cases h
  | .lc own elt tg it cond, sc, X, ex, c, h => by
    simp only [chkE] at h
    split at h
    · rename_i e t i fs sc2 hx
      obtain ⟨p, rfl⟩ := asLc_eq hx
      simp only [Bool.and_eq_true] at h
      obtain ⟨⟨⟨⟨⟨h1, h2⟩, h3⟩, h4⟩, h5⟩, h6⟩ := h
      have hb := BlkOk.sim c.sim (blkOk_by h4)
      have hm : (tg.map fun i => (N.getD i "", i)).map (·.2) = tg := by rw [List.map_map]; exact List.map_id' tg
      have key := pe_lc (X := X) (wi := tI X.K Φ it) (g := gT X.K tg) (tt := tCo X.K Φ cond) (te := tE X.K Φ elt) (pos := p) c.calm (by rw [c.n]; exact c.nd) (sndI it (tg := t) c h1) (by rw [c.n]; exact hb) (fun s H C cl fp => tgK_pg (c.blk sc2 s H C cl fp) h3) (fun s H C cl fp => sndC cond (c.blk sc2 s H C cl fp) h6) (fun s H C cl fp => (sndE elt (c.blk sc2 s H C cl fp) h5).1) (plain_fold h2)
      rw [hm] at key
      exact both (PE.by_ key fun σ H Q q => im_lc q) rfl
    · cases h
theorem sndEs : ∀ (es : CEs) {sc : Scope} {X : Cx} {xs : List Expr}, Cxt ck N Φ sc X → chkEs ck N sc es xs = true → PA X xs (tEs X.K Φ es)
  | .nil, sc, X, [], c, h => PA.by_ pa_nil fun σ H Q q => im_nil q
  | .nil, sc, X, _ :: _, c, h => by simp [chkEs] at h
  | .cons e es, sc, X, [], c, h => by simp [chkEs] at h
  | .cons e es, sc, X, x :: xs, c, h => by
    simp only [chkEs, Bool.and_eq_true] at h
    exact PA.by_ (pa_cons (sndE e c h.1.2).1 (sndEs es c h.2) (star_nst h.1.1)) fun σ H Q q => im_cons q
theorem sndB : ∀ (es : CEs) {sc : Scope} {X : Cx} {xs : List Expr} (and : Bool) (p : Pos), Cxt ck N Φ sc X → chkB ck N sc es xs = true → PE X (.BoolOp (if and then .And else .Or) xs p) (tE X.K Φ (.bop and es)) ∧ PW X (.BoolOp (if and then .And else .Or) xs p) (tT X.K Φ (.bop and es))
  | .nil, sc, X, xs, and, p, c, h => by simp [chkB] at h
  | .cons e es, sc, X, [], and, p, c, h => by simp [chkB] at h
  | .cons e .nil, sc, X, [x], and, p, c, h => by
    simp only [chkB, Bool.and_eq_true] at h
    obtain ⟨i1, i2⟩ := sndE e c h.1.1
    refine ⟨PE.by_ (pe_one i1) fun σ H Q q => im_bop1 q, ?_⟩
    cases and with
    | true => exact PW.by_ (pw_and1 (i2 (no_if h.1.2))) fun σ H Q q => im_bopT1 q
    | false => exact PW.by_ (pw_or1 (i2 (no_if h.1.2))) fun σ H Q q => im_bopT1 q
  | .cons e .nil, sc, X, x :: y :: xs, and, p, c, h => by simp [chkB] at h
  | .cons e (.cons e2 es), sc, X, [x], and, p, c, h => by simp [chkB] at h
  | .cons e (.cons e2 es), sc, X, x :: y :: xs, and, p, c, h => by
    have h' : (chkE ck N sc e x = true ∧ (!e.isIf) = true) ∧ chkB ck N sc (.cons e2 es) (y :: xs) = true := by
      rw [chkB] at h
      · simpa only [Bool.and_eq_true] using h
      · intro z; cases z
    obtain ⟨i1, i2⟩ := sndE e c h'.1.1
    obtain ⟨j1, j2⟩ := sndB (.cons e2 es) and p c h'.2
    cases and with
    | true => exact ⟨PE.by_ (pe_and i1 j1) fun σ H Q q => im_and q, PW.by_ (pw_and (i2 (no_if h'.1.2)) j2) fun σ H Q q => im_andT q⟩
    | false => exact ⟨PE.by_ (pe_or i1 j1) fun σ H Q q => im_or q, PW.by_ (pw_or (i2 (no_if h'.1.2)) j2) fun σ H Q q => im_orT q⟩
theorem sndC : ∀ (es : CEs) {sc : Scope} {X : Cx} {xs : List Expr}, Cxt ck N Φ sc X → chkC ck N sc es xs = true → PTs X xs (tCo X.K Φ es)
  | .nil, sc, X, [], c, h => pts_nil
  | .nil, sc, X, _ :: _, c, h => by simp [chkC] at h
  | .cons e .nil, sc, X, [], c, h => by simp [chkC] at h
  | .cons e .nil, sc, X, [x], c, h => by
    simp only [chkC, Bool.and_eq_true] at h
    exact pts_one ((sndE e c h.1).2 (no_if h.2))
  | .cons e .nil, sc, X, x :: y :: xs, c, h => by simp [chkC] at h
  | .cons e (.cons e2 es), sc, X, xs, c, h => by simp [chkC] at h
theorem sndO : ∀ (o : CO) {sc : Scope} {X : Cx} {ex : Option Expr}, Cxt ck N Φ sc X → chkO ck N sc o ex = true → PO X ex (tO X.K Φ o)
  | .no, sc, X, none, c, h => PO.by_ po_none fun σ H Q q => im_no q
  | .no, sc, X, some _, c, h => by simp [chkO] at h
  | .yes e, sc, X, none, c, h => by simp [chkO] at h
  | .yes e, sc, X, some x, c, h => by
    simp only [chkO] at h
    exact PO.by_ (po_some (sndE e c h).1) fun σ H Q q => im_yes q
theorem sndA : ∀ (as : CA) {sc : Scope} {X : Cx} {es : List Expr}, Cxt ck N Φ sc X → chkA ck N sc as es = true → PA X es (tA X.K Φ as)
  | .nil, sc, X, [], c, h => PA.by_ pa_nil fun σ H Q q => im_anil q
  | .nil, sc, X, _ :: _, c, h => by simp [chkA] at h
  | .val e as, sc, X, [], c, h => by simp [chkA] at h
  | .val e as, sc, X, x :: r, c, h => by
    simp only [chkA, Bool.and_eq_true] at h
    exact PA.by_ (pa_cons (sndE e c h.1.2).1 (sndA as c h.2) (star_nst h.1.1)) fun σ H Q q => im_aval q
  | .io i as, sc, X, [], c, h => by simp [chkA] at h
  | .io i as, sc, X, x :: r, c, h => by
    simp only [chkA, Bool.and_eq_true] at h
    obtain ⟨h1, h2⟩ := h
    split at h1
    · rename_i y hy
      obtain ⟨p, rfl⟩ := asName_eq hy
      exact PA.by_ (pa_cons (slot_pe c h1) (sndA as c h2) rfl) fun σ H Q q => im_aio q
    · cases h1
  | .bor i as, sc, X, [], c, h => by simp [chkA] at h
  | .bor i as, sc, X, x :: r, c, h => by
    simp only [chkA, Bool.and_eq_true] at h
    obtain ⟨h1, h2⟩ := h
    split at h1
    · rename_i y hy
      obtain ⟨p, rfl⟩ := asName_eq hy
      exact PA.by_ (pa_cons (slot_pe c h1) (sndA as c h2) rfl) fun σ H Q q => im_abor q
    · cases h1
theorem sndP : ∀ (p : CP) {sc : Scope} {X : Cx} {ex : Expr}, Cxt ck N Φ sc X → chkP ck N sc p ex = true → PE X ex (tP X.K Φ p)
  | .var i, sc, X, ex, c, h => by
    simp only [chkP] at h
    split at h
    · rename_i x hx
      obtain ⟨p, rfl⟩ := asName_eq hx
      exact PE.by_ (slot_pe c h) fun σ H Q q => im_pvar q
    · cases h
  | .ix p e, sc, X, ex, c, h => by
    simp only [chkP] at h
    split at h
    · rename_i l r hx
      obtain ⟨q, rfl⟩ := asSub_eq hx
      simp only [Bool.and_eq_true] at h
      have hu := c.un
      exact PE.by_ (pe_ix (ix_D (by omega)) (sndP p c h.1.2) (sndE e c h.2).1 (plain_ix h.1.1)) fun σ H Q q => im_pix q
    · cases h
theorem sndI : ∀ (it : CI) {sc : Scope} {X : Cx} {tg ex : Expr}, Cxt ck N Φ sc X → chkI ck N sc it tg ex = true → PI X tg ex (tI X.K Φ it)
  | .seq e, sc, X, tg, ex, c, h => by
    simp only [chkI] at h
    have i := (sndE e c h).1
    exact PI.by_ (PI.or_ (pi_list i) (pi_tup i)) fun σ H Q q => im_iseq q
  | .rng1 e, sc, X, tg, ex, c, h => by
    simp only [chkI] at h
    split at h
    · rename_i x a hx
      obtain ⟨p, q, rfl⟩ := asCall_eq hx
      simp only [Bool.and_eq_true, decide_eq_true_eq] at h
      obtain ⟨⟨⟨rfl, h1⟩, h2⟩, h3⟩ := h
      obtain ⟨g1, g2, _⟩ := c.bltn h1
      exact PI.by_ (pi_range1 g1 g2 (pa_cons (sndE e c h3).1 pa_nil (star_nst h2)) (star_nst h2)) fun σ H Q q => im_rng1 q
    · cases h
  | .rng2 a b, sc, X, tg, ex, c, h => by
    simp only [chkI] at h
    split at h
    · rename_i x l r hx
      obtain ⟨p, q, rfl⟩ := asCall_eq hx
      simp only [Bool.and_eq_true, decide_eq_true_eq] at h
      obtain ⟨⟨⟨⟨⟨rfl, h1⟩, h2⟩, h3⟩, h4⟩, h5⟩ := h
      obtain ⟨g1, g2, _⟩ := c.bltn h1
      exact PI.by_ (pi_range2 g1 g2 (pa_cons (sndE a c h4).1 (pa_cons (sndE b c h5).1 pa_nil (star_nst h3)) (star_nst h2)) (by rw [star_nst h2, star_nst h3]; rfl) (star_nst h3)) fun σ H Q q => im_rng2 q
    · cases h
  | .enum e, sc, X, tg, ex, c, h => by
    simp only [chkI] at h
    split at h
    · rename_i es ht
      obtain ⟨k, tp, rfl⟩ := asTup_eq ht
      split at h
      · rename_i x a hx
        obtain ⟨p, q, rfl⟩ := asCall_eq hx
        simp only [Bool.and_eq_true, decide_eq_true_eq] at h
        obtain ⟨⟨⟨rfl, h1⟩, h2⟩, h3⟩ := h
        obtain ⟨g1, g2, _⟩ := c.bltn h1
        have pa := pa_cons (sndE e c h3).1 (pa_nil (X := X)) (star_nst h2)
        exact PI.by_ (PI.or_ (pi_enum g1 g2 pa (star_nst h2)) (pi_enumT g1 g2 pa (star_nst h2))) fun σ H Q q => im_ienum q
      · cases h
    · cases h
  | .zip _ _, sc, X, tg, ex, c, h => by simp [chkI] at h
  | .keysP p, sc, X, tg, ex, c, h => by
    simp only [chkI] at h
    exact PI.by_ (pi_lockA (sndP p c h)) fun σ H Q q => im_ikeysP q
  | .keys e, sc, X, tg, ex, c, h => by
    simp only [chkI] at h
    split at h
    · split at h
      · rename_i x hx
        obtain ⟨p, rfl⟩ := asName_eq hx
        exact PI.by_ (pi_lockK (pi_keys (slot_pe c h))) fun σ H Q q => im_ikeys q
      · cases h
    · cases h
end
end
end Mini
set_option linter.all false
set_option maxRecDepth 100000
/-! M6f: statements against the text -/
namespace Mini
open PySem PySem.Spec PyProof.Rows L2
def asAsg : Stmt → Option (Expr × Expr)
  | .Assign [t] v _ => some (t, v)
  | _ => none
def asEx : Stmt → Option Expr
  | .Expr v _ => some v
  | _ => none
def asRet : Stmt → Option (Option Expr)
  | .Return v _ => some v
  | _ => none
def asIfS : Stmt → Option (Expr × List Stmt × List Stmt)
  | .If c a b _ => some (c, a, b)
  | _ => none
def asFor : Stmt → Option (Expr × Expr × List Stmt)
  | .For t i b [] _ => some (t, i, b)
  | _ => none
def asWhl : Stmt → Option (Expr × List Stmt)
  | .While c b [] _ => some (c, b)
  | _ => none
/-- a list made straight into a name's slot -/
def lcK (sc : Scope) (x : Str) (t v : Expr) : Bool := match asLc v with
  | some (_, _, _, _, sc2) => decide (sc.names.lookup x = some .local) && (t.pos.line == v.pos.line) && !(sc2.names.any fun y => y.1 == x && (y.2 == .local || y.2 == .cell))
  | none => false
/-- a list made for a name that an inner block reads -/
def cellK (sc : Scope) (x : Str) (v : Expr) : Bool := (asLc v).isSome && decide (sc.names.lookup x = some .cell)
section
variable (ck : Ck) (N : List Str)
mutual
def chkS (sc : Scope) : CS → Stmt → Bool
  | .asg i _ e, st => (match asAsg st with
    | some (t, v) => (match asName t with | some x => setK_ N sc i x && chkE ck N sc e v && (noComp v || (lcK sc x t v || cellK sc x v)) | none => false)
    | none => false)
  | .asgT is e, st => (match asAsg st with
    | some (t, v) => (asTup t).isSome && tgK N sc is t && noComp v && noTup v && chkE ck N sc e v
    | none => false)
  | .setp _ p k e, st => (match asAsg st with
    | some (t, v) => (match asSub t with | some (l, r) => plainX r && noComp v && noTup v && chkP ck N sc p l && chkE ck N sc k r && chkE ck N sc e v | none => false)
    | none => false)
  | .ex e, st => (match asEx st with | some v => noComp v && chkE ck N sc e v | none => false)
  | .ret e, st => (match asRet st with | some (some v) => chkE ck N sc e v | _ => false)
  | .retN, st => (match asRet st with | some none => true | _ => false)
  | .ifs c a b, st => (match asIfS st with | some (t, x, y) => chkE ck N sc c t && !c.isIf && chkSs sc a x && chkSs sc b y | none => false)
  | .for_ tg it body _, st => (match asFor st with | some (t, i, b) => chkI ck N sc it t i && plainX i && tgK N sc tg t && chkSs sc body b | none => false)
  | .whl _ c body _, st => (match asWhl st with | some (t, b) => chkE ck N sc c t && !c.isIf && chkSs sc body b | none => false)
  | .brk, st => (match st with | .Break _ => true | _ => false)
  | .cont, st => (match st with | .Continue _ => true | _ => false)
  | .skip, st => (match st with | .Pass _ => true | _ => false)
  | .bad, _ => true
  | .seq _ _, _ => false
def chkSs (sc : Scope) : CS → List Stmt → Bool
  | .skip, sts => sts.isEmpty
  | .seq a b, sts => (match sts with | st :: r => chkS sc a st && chkSs sc b r | [] => false)
  | _, _ => false
end
end
theorem asAsg_eq {st : Stmt} {t v : Expr} (h : asAsg st = some (t, v)) : ∃ p, st = .Assign [t] v p := by
  unfold asAsg at h; split at h <;> cases h; exact ⟨_, rfl⟩
theorem asEx_eq {st : Stmt} {v : Expr} (h : asEx st = some v) : ∃ p, st = .Expr v p := by
  unfold asEx at h; split at h <;> cases h; exact ⟨_, rfl⟩
theorem asRet_eq {st : Stmt} {v : Option Expr} (h : asRet st = some v) : ∃ p, st = .Return v p := by
  unfold asRet at h; split at h <;> cases h; exact ⟨_, rfl⟩
theorem asIfS_eq {st : Stmt} {c : Expr} {a b : List Stmt} (h : asIfS st = some (c, a, b)) : ∃ p, st = .If c a b p := by
  unfold asIfS at h; split at h <;> cases h; exact ⟨_, rfl⟩
theorem asFor_eq {st : Stmt} {t i : Expr} {b : List Stmt} (h : asFor st = some (t, i, b)) : ∃ p, st = .For t i b [] p := by
  unfold asFor at h; split at h <;> cases h; exact ⟨_, rfl⟩
theorem asWhl_eq {st : Stmt} {c : Expr} {b : List Stmt} (h : asWhl st = some (c, b)) : ∃ p, st = .While c b [] p := by
  unfold asWhl at h; split at h <;> cases h; exact ⟨_, rfl⟩
theorem sw_plain {v : Expr} {t : Option Expr} {l : Nat} {env : PySem.Env} (h : noComp v = true) : swapsWith v t l env = pure false := by
  cases v <;> first | rfl | (simp only [noComp] at h; cases h)
theorem sws_plain {v t : Expr} {l : Nat} {env : PySem.Env} (h : noComp v = true) : swapsWithSole [t] v l env = pure false := sw_plain h
theorem asg_sub {l r : Expr} {q : Pos} {env : PySem.Env} (h : plainX r = true) (v : Value) : assign (.Subscript l r q) env v = (do
      let ov ← holding [v] (eval l env)
      let iv ← holding [v, ov] (eval r env)
      standAt q
      holding [v, ov, iv] (setItem ov iv v)
      release [v, ov, iv] []) := by
  cases r <;> first | rfl | (simp only [plainX] at h; cases h)
theorem st_none {t v : Expr} {env : PySem.Env} (h : noTup v = true) : swappedStores [t] v env = pure none := by
  cases v <;> first | (cases t <;> rfl) | (simp only [noTup] at h; cases h)
section
variable {ck : Ck} {N : List Str} {Φ : Phi} {sc : Scope} {X : Cx}
mutual
theorem sndS : ∀ (s : CS) {st : Stmt}, Cxt ck N Φ sc X → X.env.scope = sc → sc.kind = .function → PassesOwn (model X.prog X.w) X.A X.env X.xe → chkS ck N sc s st = true → PS X st (tS X.K Φ s)
  | .asg i own e, st, c, hs, hk, hp, h => by
    simp only [chkS] at h
    split at h
    · rename_i t v hx
      obtain ⟨p, rfl⟩ := asAsg_eq hx
      split at h
      · rename_i x hn
        obtain ⟨q, rfl⟩ := asName_eq hn
        simp only [Bool.and_eq_true, Bool.or_eq_true] at h
        obtain ⟨⟨h1, h2⟩, h3⟩ := h
        obtain ⟨g1, g2, g3⟩ := c.set h1
        have nd : X.N.Nodup := by rw [c.n]; exact c.nd
        rcases h3 with h3 | h3 | h3
        · exact PS.by_ (ps_set nd g1 g2 (sndE e c h2).1 (sw_plain h3) g3) fun D σ H z => im_asg z
        · unfold lcK at h3
          split at h3
          · rename_i e0 t0 i0 fs sc2 hl
            obtain ⟨p0, rfl⟩ := asLc_eq hl
            simp only [Bool.and_eq_true, decide_eq_true_eq, Bool.not_eq_true'] at h3
            obtain ⟨⟨h4, h5⟩, h6⟩ := h3
            cases e <;> simp only [chkE, asName, asConst, asBin, asUn, asBool, asIf, asCmp, asChain, asTup, asLst, asDict, asSub, asCall, asMeth, Bool.false_eq_true] at h2
            case b1 b a => split at h2 <;> cases h2
            case lc ow elt tg it cond =>
              split at h2
              · rename_i e1 t1 i1 fs1 sc3 hz
                rw [hl] at hz
                cases hz
                simp only [Bool.and_eq_true] at h2
                obtain ⟨⟨⟨⟨⟨k1, k2⟩, k3⟩, k4⟩, k5⟩, k6⟩ := h2
                have hb := BlkOk.sim c.sim (blkOk_by k4)
                have hm : (tg.map fun i => (N.getD i "", i)).map (·.2) = tg := by rw [List.map_map]; exact List.map_id' tg
                have hsw : swapsWith (.ListComp e0 [⟨t0, i0, fs, 0⟩] sc2 p0) (some (.Name x q)) p.line X.env = pure true := by
                  show (pure (X.env.blockKind == .function && X.env.kindOf x == some .local && q.line == p0.line && !(sc2.names.any fun y => y.1 == x && (y.2 == .local || y.2 == .cell))) : Sem Bool) = pure true
                  have b1 : X.env.blockKind = .function := by unfold PySem.Env.blockKind; rw [hs, hk]; rfl
                  have b2 : X.env.kindOf x = some .local := by show X.env.scope.names.lookup x = _; rw [hs]; exact h4
                  have b3 : (q.line == p0.line) = true := h5
                  rw [b1, b2, b3, h6]; rfl
                have key := ps_setLc (X := X) (i := i) (y := x) (py := q) (spos := p) (wi := tI X.K Φ it) (g := gT X.K tg) (tt := tCo X.K Φ cond) (te := tE X.K Φ elt) (pos := p0) c.calm nd g1 (by rw [hs]; exact h4) hsw (sndI it (tg := t0) c k1) (by rw [c.n]; exact hb) (fun s H C cl fp => tgK_pg (c.blk sc2 s H C cl fp) k3) (fun s H C cl fp => sndC cond (c.blk sc2 s H C cl fp) k6) (fun s H C cl fp => (sndE elt (c.blk sc2 s H C cl fp) k5).1) (plain_fold k2)
                rw [hm] at key
                exact PS.by_ key fun D σ H z => im_lc (im_asg z)
              · cases h2
          · cases h3
        · unfold cellK at h3
          simp only [Bool.and_eq_true, decide_eq_true_eq, Option.isSome_iff_exists] at h3
          obtain ⟨⟨⟨e0, t0, i0, fs, sc2⟩, hl⟩, h4⟩ := h3
          obtain ⟨p0, rfl⟩ := asLc_eq hl
          have hsw : swapsWith (.ListComp e0 [⟨t0, i0, fs, 0⟩] sc2 p0) (some (.Name x q)) p.line X.env = pure false := by
            show (pure (X.env.blockKind == .function && X.env.kindOf x == some .local && q.line == p0.line && !(sc2.names.any fun y => y.1 == x && (y.2 == .local || y.2 == .cell))) : Sem Bool) = pure false
            have b2 : X.env.kindOf x = some .cell := by show X.env.scope.names.lookup x = _; rw [hs]; exact h4
            have b3 : (some NameKind.cell == some NameKind.local) = false := rfl
            rw [b2, b3, Bool.and_false, Bool.false_and, Bool.false_and]
          exact PS.by_ (ps_set nd g1 g2 (sndE e c h2).1 hsw g3) fun D σ H z => im_asg z
      · cases h
    · cases h
  | .asgT is e, st, c, hs, hk, hp, h => by
    simp only [chkS] at h
    split at h
    · rename_i t v hx
      obtain ⟨p, rfl⟩ := asAsg_eq hx
      simp only [Bool.and_eq_true] at h
      obtain ⟨⟨⟨⟨h0, h1⟩, h2⟩, h3⟩, h4⟩ := h
      have pg := tgK_pg c h1
      cases ht : asTup t with
      | none => rw [ht] at h0; cases h0
      | some es =>
        obtain ⟨k, tp, rfl⟩ := asTup_eq ht
        have hl : is.length ≠ 1 := by
          simp only [tgK, asTup, Bool.and_eq_true, decide_eq_true_eq] at h1
          exact h1.1
        have eg : gT X.K is = gTup X.K is.length (gNames is) := by
          unfold gT; split
          · simp at hl
          · rfl
        rw [eg] at pg
        exact PS.by_ (ps_asg (sndE e c h4).1 pg (sws_plain h2) (st_none h3) rfl) fun D σ H z => im_asgT z
    · cases h
  | .setp own p k e, st, c, hs, hk, hp, h => by
    simp only [chkS] at h
    split at h
    · rename_i t v hx
      obtain ⟨pp, rfl⟩ := asAsg_eq hx
      split at h
      · rename_i l r hn
        obtain ⟨q, rfl⟩ := asSub_eq hn
        simp only [Bool.and_eq_true] at h
        obtain ⟨⟨⟨⟨⟨h1, h2⟩, h3⟩, h4⟩, h5⟩, h6⟩ := h
        have hu := c.un
        exact PS.by_ (ps_asg (sndE e c h6).1 (pg_sub (sndP p c h4) (sndE k c h5).1 (set_D (by omega)) (asg_sub h1)) (sws_plain h2) (st_none h3) rfl) fun D σ H z => im_setp z
      · cases h
    · cases h
  | .ex e, st, c, hs, hk, hp, h => by
    simp only [chkS] at h
    split at h
    · rename_i v hx
      obtain ⟨p, rfl⟩ := asEx_eq hx
      simp only [Bool.and_eq_true] at h
      exact PS.by_ (ps_expr (sndE e c h.2).1 (sw_plain h.1)) fun D σ H z => im_ex z
    · cases h
  | .ret e, st, c, hs, hk, hp, h => by
    simp only [chkS] at h
    split at h
    · rename_i v hx
      obtain ⟨p, rfl⟩ := asRet_eq hx
      exact PS.by_ (ps_ret (sndE e c h).1) fun D σ H z => im_ret z
    · cases h
  | .retN, st, c, hs, hk, hp, h => by
    simp only [chkS] at h
    split at h
    · rename_i hx
      obtain ⟨p, rfl⟩ := asRet_eq hx
      exact PS.by_ ps_retN fun D σ H z => im_retN z
    · cases h
  | .ifs t a b, st, c, hs, hk, hp, h => by
    simp only [chkS] at h
    split at h
    · rename_i t' x y hx
      obtain ⟨p, rfl⟩ := asIfS_eq hx
      simp only [Bool.and_eq_true] at h
      obtain ⟨⟨⟨h1, h2⟩, h3⟩, h4⟩ := h
      exact PS.by_ (ps_if ((sndE t c h1).2 (no_if h2)) (sndSs a c hs hk hp h3) (sndSs b c hs hk hp h4)) fun D σ H z => im_ifs z
    · cases h
  | .for_ tg it body clr, st, c, hs, hk, hp, h => by
    simp only [chkS] at h
    split at h
    · rename_i t i b hx
      obtain ⟨p, rfl⟩ := asFor_eq hx
      simp only [Bool.and_eq_true] at h
      obtain ⟨⟨⟨h1, h2⟩, h3⟩, h4⟩ := h
      exact PS.by_ (ps_for hp c.calm (sndI it c h1) (tgK_pg c h3) (sndSs body c hs hk hp h4) (plain_fold h2)) fun D σ H z => im_for z
    · cases h
  | .whl m t body clr, st, c, hs, hk, hp, h => by
    simp only [chkS] at h
    split at h
    · rename_i t' b hx
      obtain ⟨p, rfl⟩ := asWhl_eq hx
      simp only [Bool.and_eq_true] at h
      obtain ⟨⟨h1, h2⟩, h3⟩ := h
      exact PS.by_ (ps_while hp ((sndE t c h1).2 (no_if h2)) (sndSs body c hs hk hp h3)) fun D σ H z => im_whl z
    · cases h
  | .brk, st, c, hs, hk, hp, h => by
    simp only [chkS] at h
    split at h
    · exact PS.by_ ps_break fun D σ H z => im_brk z
    · cases h
  | .cont, st, c, hs, hk, hp, h => by
    simp only [chkS] at h
    split at h
    · exact PS.by_ ps_continue fun D σ H z => im_cont z
    · cases h
  | .skip, st, c, hs, hk, hp, h => by
    simp only [chkS] at h
    split at h
    · exact PS.by_ ps_pass fun D σ H z => im_skip z
    · cases h
  | .bad, st, c, hs, hk, hp, h => ⟨fun pins s σ H D I hw => by
      obtain ⟨Hf, F, ρ, _, _, hw⟩ := hw
      simp only [denS] at hw
      exact False.elim hw⟩
  | .seq a b, st, c, hs, hk, hp, h => by simp [chkS] at h
theorem sndSs : ∀ (s : CS) {sts : List Stmt}, Cxt ck N Φ sc X → X.env.scope = sc → sc.kind = .function → PassesOwn (model X.prog X.w) X.A X.env X.xe → chkSs ck N sc s sts = true → PSs X sts (tS X.K Φ s)
  | .skip, [], c, hs, hk, hp, h => PSs.by_ pss_nil fun D σ H z => im_skip z
  | .skip, _ :: _, c, hs, hk, hp, h => by simp [chkSs] at h
  | .seq a b, [], c, hs, hk, hp, h => by simp [chkSs] at h
  | .seq a b, st :: r, c, hs, hk, hp, h => by
    simp only [chkSs, Bool.and_eq_true] at h
    exact PSs.by_ (pss_cons (sndS a c hs hk hp h.1) (sndSs b c hs hk hp h.2)) fun D σ H z => im_seq z
  | .asg _ _ _, _, c, hs, hk, hp, h => by simp [chkSs] at h
  | .asgT _ _, _, c, hs, hk, hp, h => by simp [chkSs] at h
  | .setp _ _ _ _, _, c, hs, hk, hp, h => by simp [chkSs] at h
  | .ex _, _, c, hs, hk, hp, h => by simp [chkSs] at h
  | .ret _, _, c, hs, hk, hp, h => by simp [chkSs] at h
  | .retN, _, c, hs, hk, hp, h => by simp [chkSs] at h
  | .bad, _, c, hs, hk, hp, h => by simp [chkSs] at h
  | .ifs _ _ _, _, c, hs, hk, hp, h => by simp [chkSs] at h
  | .for_ _ _ _ _, _, c, hs, hk, hp, h => by simp [chkSs] at h
  | .whl _ _ _ _, _, c, hs, hk, hp, h => by simp [chkSs] at h
  | .brk, _, c, hs, hk, hp, h => by simp [chkSs] at h
  | .cont, _, c, hs, hk, hp, h => by simp [chkSs] at h
end
end
end Mini
set_option linter.all false
set_option maxRecDepth 100000
/-! M6g: defs against the text; a module's defs keep what phi says -/
namespace Mini
open PySem PySem.Spec PyProof.Rows L2
/-- a def is as its datum says -/
def chkF (ck : Ck) (c : CF) (body : List Stmt) (sc : Scope) (ps : List Str) : Bool :=
  chkSs ck c.slots sc c.body body && decide c.slots.Nodup && decide (c.slots.take ps.length = ps) && decide (ps.length = c.params) && decide (c.params ≤ c.slots.length) && (match sc.kind with | .function => true | _ => false) && !sc.isCoroutine && !sc.isGenerator
    && (ps.all fun x => decide (sc.names.lookup x = some .local) || decide (sc.names.lookup x = some .cell)) && (sc.names.all fun y => match y.2 with | .free => false | _ => true)
    && decide c.io.Nodup && (c.io.all fun i => decide (i < c.params) && decide (i ∉ c.body.asgs))
structure ChkF (ck : Ck) (c : CF) (body : List Stmt) (sc : Scope) (ps : List Str) : Prop where
  body : chkSs ck c.slots sc c.body body = true
  scope : FnScope c.slots ps sc
  ar : ps.length = c.params
  le : c.params ≤ c.slots.length
  iond : c.io.Nodup
  iolt : ∀ i ∈ c.io, i < c.params ∧ i ∉ c.body.asgs
theorem chkF_by {ck : Ck} {c : CF} {body : List Stmt} {sc : Scope} {ps : List Str} (h : chkF ck c body sc ps = true) : ChkF ck c body sc ps := by
  simp only [chkF, Bool.and_eq_true, decide_eq_true_eq, Bool.not_eq_true', List.all_eq_true, Bool.or_eq_true] at h
  obtain ⟨⟨⟨⟨⟨⟨⟨⟨⟨⟨⟨h1, h2⟩, h3⟩, h4⟩, h5⟩, h6⟩, h7⟩, h8⟩, h9⟩, h10⟩, h11⟩, h12⟩ := h
  refine ⟨h1, ⟨?_, h7, h8, h2, h3, h9, fun y hy e => ?_⟩, h4, h5, h11, h12⟩
  · split at h6
    · assumption
    · cases h6
  · have q := h10 y hy
    rw [e] at q
    cases q
section
variable {K : PySem.W.Frag}
theorem RSl.starts {Hf H : Hp} {n : Nat} : ∀ {ds : List Mini.D} {vs : List V} {F : List Addr}, RVs K Hf H ds vs F → RSl K Hf H (ds.map some ++ List.replicate n none) (vs.map some ++ List.replicate n none) F
  | [], vs, F, h => by
    simp only [RVs] at h
    obtain ⟨rfl, rfl⟩ := h
    simp only [List.map_nil, List.nil_append]
    induction n with
    | zero => simp [RSl]
    | succ n ih => simp only [List.replicate_succ, RSl]; exact ⟨_, _, rfl, ih⟩
  | d :: ds, vs, F, h => by
    simp only [RVs] at h
    obtain ⟨v, r, f1, f2, rfl, rfl, h1, h2⟩ := h
    simp only [List.map_cons, List.cons_append, RSl]
    exact ⟨v, _, f1, f2, rfl, rfl, h1, RSl.starts h2⟩
theorem outsOf_set {ρ : Env} {i : Nat} {o : Option Mini.D} : ∀ {is : List Nat}, i ∉ is → outsOf is (ρ.set i o) = outsOf is ρ
  | [], _ => rfl
  | j :: is, h => by
    simp only [List.mem_cons, not_or] at h
    have e : getS (ρ.set i o) j = getS ρ j := by unfold getS; rw [List.getElem?_set_ne h.1]
    simp only [outsOf, e, outsOf_set h.2]
theorem RSl.picks {Hf H : Hp} {σ : L2.St} {vs : List V} : ∀ {io : List Nat} {ρ : Env} {F : List Addr} {outs : List Mini.D}, RSl K Hf H ρ σ F → io.Nodup → (∀ i ∈ io, σ[i]? = (vs[i]?).map some) → outsOf io ρ = some outs → ∃ ws G rest, pick vs io = some ws ∧ RVs K Hf H outs ws G ∧ F.Perm (G ++ rest)
  | [], ρ, F, outs, h, _, _, e => by
    simp only [outsOf, Option.some.injEq] at e
    subst e
    exact ⟨[], [], F, rfl, by simp [RVs], List.Perm.refl _⟩
  | i :: is, ρ, F, outs, h, hn, hv, e => by
    simp only [outsOf] at e
    obtain ⟨d, e1, e⟩ := Option.bind_eq_some_iff.mp e
    obtain ⟨r, e2, e3⟩ := Option.map_eq_some_iff.mp e
    subst e3
    obtain ⟨v, g, rest, s1, s2, s3, s4⟩ := RSl.take h e1
    rw [List.nodup_cons] at hn
    obtain ⟨ws, G, rest', p1, p2, p3⟩ := RSl.picks (vs := vs) s4 hn.2 (fun j hj => hv j (List.mem_cons_of_mem _ hj)) (by rw [outsOf_set hn.1]; exact e2)
    have hi : vs[i]? = some v := by
      have := hv i List.mem_cons_self
      rw [s1] at this
      cases q : vs[i]? with
      | none => rw [q] at this; simp at this
      | some w => rw [q] at this; simp at this; rw [this]
    refine ⟨v :: ws, g ++ G, rest', ?_, ?_, ?_⟩
    · simp only [pick, hi, Option.bind_some, p1, Option.map_some]
    · simp only [RVs]; exact ⟨v, ws, g, G, rfl, rfl, s3, p2⟩
    · exact s2.trans (by rw [List.append_assoc]; exact List.Perm.append_left g p3)
end
/-- what stands behind the top: the defs of the program told, its numbers, the builtins in their places -/
structure ModM (prog : List CF) (cs : List (Str × Mini.D)) (K : PySem.W.Frag) (mg : Str → Option Value) (base : Heap) : Prop where
  defs : ∀ (f : Nat) (c : CF), prog[f]? = some c → ∃ qual params body scope fa fd ps, FunD K c.name qual params body scope [] [] fa fd ∧ mg c.name = some (.ref fa) ∧ Binds K fd ps [] ∧ chkF ⟨prog.map fun c => (c.name, c.io), cs⟩ c body scope ps = true
  cns : ∀ x i, cs.lookup x = some (.int i) → ∃ u, mg x = some u ∧ RelV (.int i) u
  blt : ∀ x, x ∈ bltNames → mg x = none
  sys : ∃ o, base.get? sysModules = some o
section
variable {P : Program} {w : World} {K : PySem.W.Frag} {mg : Str → Option Value} {base : Heap} {prog : List CF} {cs : List (Str × Mini.D)}
theorem mod_fn (M : ModM prog cs K mg base) : ∀ (n f : Nat) (c : CF), prog[f]? = some c → ∀ {qual : Str} {params : Arguments} {body : List Stmt} {scope : Scope} {fa : Addr} {fd : FuncData} {ps : List Str}, FunD K c.name qual params body scope [] [] fa fd → chkF ⟨prog.map fun c => (c.name, c.io), cs⟩ c body scope ps = true → FnG P w K mg base n fa fd ps (spF K c.io (phi prog n f))
  | 0, f, c, hf, qual, params, body, scope, fa, fd, ps, F, h => ⟨fun xs H Q E z => by
      obtain ⟨Hf, G, args, _, _, z⟩ := z
      exact False.elim z, fun A out s H args us xs Q E _ _ _ _ _ z => by
      obtain ⟨Hf, G, args, _, _, z⟩ := z
      exact False.elim z⟩
  | n + 1, f, c, hf, qual, params, body, scope, fa, fd, ps, F, h => by
    have C := chkF_by h
    have ephi : ∀ args, phi prog (n + 1) f args = runF (phi prog n) c args := fun args => by simp only [phi, hf]
    refine FunD.okG F C.scope (fun xs H Q E z => ?_) (fun cd A out s H xs Q E hr hg z => ⟨tS K (phi prog n) c.body, ?_, ?_⟩)
    · obtain ⟨Hf, G, args, _, z1, z⟩ := z
      have hl := RVs.length z1
      rw [ephi] at z
      unfold runF at z
      by_cases ha : args.length = c.params
      · rw [hl, ha, C.ar]
      · rw [if_neg ha] at z; exact False.elim z
    · have cx : Cxt ⟨prog.map fun c => (c.name, c.io), cs⟩ c.slots (phi prog n) scope (cxOf CXN P w K mg base c.slots qual scope fa cd A out s H E) :=
        ⟨rfl, rfl, C.scope.nd, Sim.refl scope, hg, by have := hr.un; show (A.deeper _).units + 200 < cLine; omega, M.sys, fun _ _ => .inl rfl, fun f' x io hx => by
          rw [List.getElem?_map] at hx
          obtain ⟨c', e1, e2⟩ := Option.map_eq_some_iff.mp hx
          cases e2
          obtain ⟨qual', params', body', scope', fa', fd', ps', d1, d2, d3, d4⟩ := M.defs f' c' e1
          exact ⟨fa', fd', ps', n, d2, d1.kp, d3, hr, mod_fn M n f' c' e1 d1 d4⟩, M.cns, M.blt⟩
      exact sndSs c.body cx rfl C.scope.kind (passes_of rfl) C.body
    · obtain ⟨Hf, G, args, s0, z1, z⟩ := z
      have hl := RVs.length z1
      rw [ephi] at z
      unfold runF at z
      by_cases ha : args.length = c.params
      · rw [if_pos ha] at z
        have hsl : RSl K Hf H (c.start args) (L2.start c.slots xs) G := by
          unfold CF.start L2.start
          rw [hl, ha]
          exact RSl.starts z1
        have hfr : ∀ σ' : L2.St, Fr c.body.asgs (L2.start c.slots xs) σ' → ∀ i ∈ c.io, σ'[i]? = (xs[i]?).map some := fun σ' fr i hi => by
          obtain ⟨i1, i2⟩ := C.iolt i hi
          rw [fr.2 i i2]
          unfold L2.start
          rw [List.getElem?_append_left (by rw [List.length_map]; omega), List.getElem?_map]
        refine ⟨Hf, G, c.start args, s0, hsl, ?_⟩
        cases q : denS (phi prog n) c.body (c.start args) with
        | stuck => rw [q] at z; exact False.elim z
        | exc x ρ' =>
          rw [q] at z
          cases q2 : outsOf c.io ρ' with
          | none => simp only [q2] at z
          | some outs => simp only [q2] at z
        | ok fl ρ' =>
          cases fl with
          | next =>
            rw [q] at z
            cases q2 : outsOf c.io ρ' with
            | none => simp only [q2] at z
            | some outs =>
              simp only [q2] at z
              intro σ' H' Hf' F' s1 sl1 st1 fr
              obtain ⟨ws, G', rest, p1, p2, p3⟩ := RSl.picks sl1 C.iond (hfr σ' fr) q2
              have sG : Sta Hf' H' (G' ++ []) := by
                rw [List.append_nil]
                exact (s1.perm p3).less (List.sublist_append_left _ _)
              exact z .non H' Hf' G' [] sG (st1.mono fun a ha => p3.mem_iff.mpr (by simp at ha; simp [ha])) RV.non_ ⟨ws, p1, p2⟩
          | ret d =>
            rw [q] at z
            cases q2 : outsOf c.io ρ' with
            | none => simp only [q2] at z
            | some outs =>
              simp only [q2] at z
              intro v σ' H' Hf' F' f' s1 sl1 st1 rv fr
              have w : PstW K Hf H G (c.start args) σ' false ⟨d, false⟩ ρ' v H' Hf' F' f' := ⟨s1, sl1, st1, .inl ⟨rfl, rv⟩, fun e => nomatch e⟩
              obtain ⟨Hf2, f2, s2, sl2, st2, r2⟩ := w.held c.own rfl
              obtain ⟨ws, G', rest, p1, p2, p3⟩ := RSl.picks sl2 C.iond (hfr σ' fr) q2
              have p4 : (F' ++ f2).Perm ((G' ++ f2) ++ rest) := by
                refine (p3.append_right f2).trans ?_
                rw [List.append_assoc, List.append_assoc]
                exact List.Perm.append_left G' List.perm_append_comm
              have sG : Sta Hf2 H' (G' ++ f2) := (s2.perm p4).less (List.sublist_append_left _ _)
              exact z v H' Hf2 G' f2 sG (st2.mono fun a ha => p4.mem_iff.mpr (List.mem_append_left _ ha)) r2 ⟨ws, p1, p2⟩
          | brk => rw [q] at z; exact False.elim z
          | cont => rw [q] at z; exact False.elim z
      · rw [if_neg ha] at z; exact False.elim z
end
end Mini
set_option linter.all false
set_option maxRecDepth 100000
/-! M7a: the law's def: what phi says of a script is what the law promises -/
namespace Mini
open PySem PySem.Spec PyProof.Rows L2
theorem sp_law {K : PySem.W.Frag} {prog : List CF} {k f n0 : Nat} (h : ∀ ns : List Int, ns.length ≤ n0 → phi prog k f [.scr ns] = .ok (.bl true) []) (H : Hp) (a : Addr) (ns : List Int) (hl : ns.length ≤ n0) (ho : Only H) (hs : SqL K H a (ns.map V.int)) {E : XK} :
    spF K [] (phi prog k f) [.ref a] H (fun v _ => v = .bl true) E := by
  refine ⟨H, [], [.scr ns], ⟨.nil, fun a ha => (nomatch ha), fun a o e => e⟩, ?_, ?_⟩
  · simp only [RVs, RV, RF]
    exact ⟨.ref a, [], [], [], rfl, rfl, ⟨rfl, a, rfl, hs⟩, rfl, rfl⟩
  · rw [h ns hl]
    intro v H' Hf' F' g _ _ rv _
    simp only [RV, RF] at rv
    exact rv.2
end Mini
set_option linter.all false
set_option maxRecDepth 100000
/-! M7b: the head's facts give the module -/
namespace Mini
open PySem PySem.Spec PyProof.Rows L2
/-- a def's datum, by its place in the text -/
def mkD (P : Program) (c : CF) (t : Nat) : He.DefD := ⟨(c.name, none), c.name, c.name, defArgs (P.main.body.getD t (.Pass ⟨0, 0, 0, 0⟩)), defBody (P.main.body.getD t (.Pass ⟨0, 0, 0, 0⟩)), defScope (P.main.body.getD t (.Pass ⟨0, 0, 0, 0⟩)), [], []⟩
/-- every parameter is written -/
def BindP (d : He.DefD) : Prop := ∀ (kV doc pm : Value) (an : Option Addr) (cdv ct : Value) (us : List Value), us.length = (d.params.args.map (·.arg)).length →
  bindArgs (PySem.W.fnOf d.name d.qual d.params d.body d.scope .none kV doc pm an cdv ct) ⟨us, []⟩ = pure ((d.params.args.map (·.arg)).zip us)
def fnL (P : Program) (pt : List (CF × Nat)) : List He.DefD := pt.map fun p => mkD P p.1 p.2
def faL (pt : List (CF × Nat)) (cs : List (Str × Int)) : List He.Fa := pt.map (fun p => .glo p.1.name) ++ (cs.map (fun p => .int p.1 p.2) ++ bltNames.map .free)
def csL (cs : List (Str × Int)) : List (Str × Mini.D) := cs.map fun p => (p.1, .int p.2)
def ckL (pt : List (CF × Nat)) (cs : List (Str × Int)) : Ck := ⟨(pt.map (·.1)).map fun c => (c.name, c.io), csL cs⟩
def chkAll (P : Program) (pt : List (CF × Nat)) (cs : List (Str × Int)) : Bool := pt.all fun p =>
  chkF (ckL pt cs) p.1 (mkD P p.1 p.2).body (mkD P p.1 p.2).scope ((mkD P p.1 p.2).params.args.map (·.arg))
theorem csL_lookup {x : Str} {i : Int} : ∀ {cs : List (Str × Int)}, (csL cs).lookup x = some (.int i) → (x, i) ∈ cs
  | [], h => by simp [csL] at h
  | (y, j) :: r, h => by
    simp only [csL, List.map_cons, List.lookup_cons] at h
    split at h
    · rename_i e
      cases eq_of_beq e
      cases h
      exact List.mem_cons_self
    · exact List.mem_cons_of_mem _ (csL_lookup h)
section
variable {P : Program} {pt : List (CF × Nat)} {cs : List (Str × Int)} {K : PySem.W.Frag} {mg : Str → Option Value} {base : Heap}
theorem says_fa {fa : List He.Fa} {fn : List He.DefD} (c : He.SaysD fa fn K) {f : He.Fa} (h : f ∈ fa) : f.ok K = true := by
  obtain ⟨i, hi⟩ := List.mem_iff_getElem?.mp h
  exact c.fact i hi
theorem modM (X : K.In base) (G : base.Ns mainGlobals mg) (c : He.SaysD (faL pt cs) (fnL P pt) K) (hs : (K.lookup sysModules).isSome = true) (hb : ∀ p ∈ pt, BindP (mkD P p.1 p.2)) (hc : chkAll P pt cs = true) : ModM (pt.map (·.1)) (csL cs) K mg base := by
  simp only [chkAll, List.all_eq_true] at hc
  refine ⟨fun f cf hf => ?_, fun x i hx => ?_, fun x hx => ?_, ?_⟩
  · rw [List.getElem?_map] at hf
    obtain ⟨p, e1, e2⟩ := Option.map_eq_some_iff.mp hf
    subst e2
    have hm := List.mem_of_getElem? e1
    have hd : (fnL P pt)[f]? = some (mkD P p.1 p.2) := by unfold fnL; rw [List.getElem?_map, e1]; rfl
    obtain ⟨fd, F⟩ := c.def_ f hd
    have hg := He.glo_ok X G (says_fa c (f := .glo p.1.name) (List.mem_append_left _ (List.mem_map.mpr ⟨p, hm, rfl⟩)))
    exact ⟨_, _, _, _, _, fd, _, F, hg, FunD.bindsN F (hb p hm), hc p hm⟩
  · have hm := csL_lookup hx
    obtain ⟨t, ht⟩ := He.int_ok X G (says_fa c (f := .int x i) (List.mem_append_right _ (List.mem_append_left _ (List.mem_map.mpr ⟨(x, i), hm, rfl⟩))))
    exact ⟨_, ht, t, rfl⟩
  · exact He.free_ok X G (says_fa c (f := .free x) (List.mem_append_right _ (List.mem_append_right _ (List.mem_map.mpr ⟨x, hx, rfl⟩))))
  · obtain ⟨o, ho⟩ := Option.isSome_iff_exists.mp hs
    exact ⟨o, X _ _ ho⟩
end
/-- the head's hook: the facts, and the table of modules -/
def obM (n : Nat) (fa : List He.Fa) (fn : List He.DefD) (g : Addr → Option Obj) : He.AlD × Bool := (He.obsD fa fn (He.frG g (sysModules :: He.asD g n)), ((He.frG g (sysModules :: He.asD g n)).lookup sysModules).isSome)
def hookM (n : Nat) (fa : List He.Fa) (fn : List He.DefD) : PySem.W.Hook where
  α := He.AlD × Bool
  obs := fun s => obM n fa fn s.heap.get?
  val := fun _ => (He.valD fn, true)
  says := fun _ h => ∃ K : PySem.W.Frag, K.In h ∧ He.SaysD fa fn K ∧ (K.lookup sysModules).isSome = true
  of := fun _ s e => ⟨He.frG s.heap.get? (sysModules :: He.asD s.heap.get? n), He.frG_in, congrArg (fun z : He.AlD × Bool => z.1) e, congrArg (fun z : He.AlD × Bool => z.2) e⟩
  keeps := fun _ _ _ ⟨K, hK, c⟩ k => ⟨K, PySem.W.Frag.In.keeps hK k, c⟩
theorem obM_eq {n : Nat} {fa : List He.Fa} {fn : List He.DefD} {g : Addr → Option Obj} {s : Shared} (h : ∀ a, g a = s.heap.get? a) : obM n fa fn g = (hookM n fa fn).obs s := by
  have e : g = s.heap.get? := funext h
  rw [e] <;> rfl
end Mini
set_option linter.all false
set_option maxRecDepth 100000
/-! M7c: the law, from the head's facts -/
namespace Mini
open PySem PySem.Spec PyProof.Rows L2
theorem law_fin {P : Program} {w : World} {pt : List (CF × Nat)} {cs : List (Str × Int)} {m k f t : Nat} {c : CF} {mg : Str → Option Value} {fa : Addr} {h : Heap}
    (Y : (hookM m (faL pt cs) (fnL P pt)).says w h) (G : h.Ns mainGlobals mg) (hmg : mg ("law" : PySem.Str) = some (.ref fa))
    (hb : ∀ p ∈ pt, BindP (mkD P p.1 p.2)) (hc : chkAll P pt cs = true) (hf : pt[f]? = some (c, t)) (hn : c.name = "law") (hio : c.io = []) (hps : (mkD P c t).params.args.map (·.arg) = [("script" : Str)])
    (hp : ∀ ns : List Int, ns.length ≤ 63 → phi (pt.map (·.1)) k f [.scr ns] = .ok (.bl true) []) :
    ∃ (K : PySem.W.Frag) (fd : FuncData) (sp : Sp), K.In h ∧ (∀ (s : Shared) (u : Value), BindsTo s fd ⟨[u], []⟩ [("script", u)]) ∧
        (∀ (H : Hp) (a : Addr) (ns : List Int), ns.length ≤ 63 → Only H → SqL K H a (ns.map V.int) → sp [.ref a] H (fun v _ => v = .bl true) fun _ _ _ => False) ∧
        ∀ base : Heap, K.In base → base.Ns mainGlobals mg → FnG P w K mg base k fa fd ["script"] sp := by
  obtain ⟨K, KX, sd, sy⟩ := Y
  have hd : (fnL P pt)[f]? = some (mkD P c t) := by unfold fnL; rw [List.getElem?_map, hf]; rfl
  obtain ⟨fd, F⟩ := sd.def_ f hd
  have hmem : (c, t) ∈ pt := List.mem_of_getElem? hf
  have hg := He.glo_ok KX G (says_fa sd (f := .glo c.name) (List.mem_append_left _ (List.mem_map.mpr ⟨(c, t), hmem, rfl⟩)))
  rw [hn] at hg
  have e := hmg.symm.trans hg
  have ea : fa = He.ga K "law" := by
    have := Option.some.inj e
    exact Value.ref.inj this
  have hbc := hb _ hmem
  refine ⟨K, fd, spF K [] (phi (pt.map (·.1)) k f), KX, fun s u => ?_, fun H a ns hl ho hs => sp_law hp H a ns hl ho hs, fun base KI NS => ?_⟩
  · have := FunD.bindsA (ps := [("script" : Str)]) F (fun kV doc pm an cdv ct us hl => by
      have q := hbc kV doc pm an cdv ct us (by rw [hps]; exact hl)
      rw [hps] at q
      exact q) s [u] rfl
    exact this
  · have M := modM (P := P) KI NS sd sy hb hc
    have hcf : (pt.map (·.1))[f]? = some c := by rw [List.getElem?_map, hf]; rfl
    have ck : chkF (ckL pt cs) c (mkD P c t).body (mkD P c t).scope ((mkD P c t).params.args.map (·.arg)) = true := (List.all_eq_true.mp hc) (c, t) hmem
    rw [hps] at ck
    have en : (mkD P c t).name = "law" := hn
    have F' : FunD K c.name (mkD P c t).qual (mkD P c t).params (mkD P c t).body (mkD P c t).scope [] [] fa fd := by
      rw [ea, ← hn]
      exact F
    have r := mod_fn (P := P) (w := w) M k f c hcf F' ck
    rw [hio] at r
    exact r
end Mini
set_option linter.all false
set_option maxRecDepth 100000
/-! P0: the small language walked by continuations: what is asked behind a piece. -/
namespace Mini
open PySem L2

/-- what simp leaves as it is -/
inductive Tg {α : Sort u} (a : α) : Type where
  | t
def optK {α : Type} (o : Option α) (k : α → Prop) (_ : Tg k := .t) : Prop := match o with
  | some a => k a
  | none => False
def condK (b : Bool) (p q : Prop) (_ : Tg p := .t) (_ : Tg q := .t) : Prop := (b = true → p) ∧ (b = false → q)
/-- t: but looked at; then q must be quiet -/
def gQ (t q : Bool) (p : Prop) (_ : Tg q := .t) (_ : Tg p := .t) : Prop := (t = true → q = true) ∧ p
def Rx.S {α : Type} (r : Rx α) (Q : α → Env → Prop) (X : Ex → Env → Prop) (_ : Tg Q := .t) (_ : Tg X := .t) : Prop := match r with
  | .ok a e => Q a e
  | .exc x e => X x e
  | .stuck => False
@[irreducible] def Cr.S (c : Cr) (Q : D → List D → Prop) (X : Ex → List D → Prop) (_ : Tg Q := .t) (_ : Tg X := .t) : Prop := match c with
  | .ok d o => Q d o
  | .exc x o => X x o
  | .stuck => False
def noX {α : Type} : Ex → α → Prop := fun _ _ => False
/-- the meanings, with the text kept -/
@[irreducible] def dE (Φ : Phi) (e : CE) (ρ : Env) (_ : Tg e := .t) : Rx Vt := den Φ e ρ
@[irreducible] def dB (Φ : Phi) (b : Bool) (e : CEs) (ρ : Env) (_ : Tg e := .t) : Rx Vt := denB Φ b e ρ
@[irreducible] def dEs (Φ : Phi) (e : CEs) (ρ : Env) (_ : Tg e := .t) : Rx (List D) := denEs Φ e ρ
@[irreducible] def dC (Φ : Phi) (e : CEs) (ρ : Env) (_ : Tg e := .t) : Rx Bool := denC Φ e ρ
@[irreducible] def dO (Φ : Phi) (e : CO) (ρ : Env) (_ : Tg e := .t) : Rx (Option Int) := denO Φ e ρ
@[irreducible] def dA (Φ : Phi) (e : CA) (ρ : Env) (_ : Tg e := .t) : Rx (List D) := denA Φ e ρ
@[irreducible] def dP (Φ : Phi) (e : CP) (ρ : Env) (_ : Tg e := .t) : Rx (List D) := denP Φ e ρ
@[irreducible] def dI (Φ : Phi) (e : CI) (ρ : Env) (_ : Tg e := .t) : Rx LvT := denI Φ e ρ
@[irreducible] def dS (Φ : Phi) (e : CS) (ρ : Env) (_ : Tg e := .t) : Rx Fl := denS Φ e ρ

section
variable {α : Type} {Q : α → Env → Prop} {X : Ex → Env → Prop} {a : α} {x : Ex} {e : Env}
@[simp] theorem optK_some {β : Type} {b : β} {k : β → Prop} : optK (some b) k = k b := (rfl : _ = _).trans rfl
@[simp] theorem optK_none {β : Type} {k : β → Prop} : optK (none : Option β) k = False := (rfl : _ = _).trans rfl
@[simp] theorem condK_true {p q : Prop} : condK true p q = p := by simp [condK]
@[simp] theorem condK_false {p q : Prop} : condK false p q = q := by simp [condK]
@[simp] theorem gQ_false {q : Bool} {p : Prop} : gQ false q p = p := by simp [gQ]
@[simp] theorem gQ_true {q : Bool} {p : Prop} : gQ true q p = (q = true ∧ p) := by simp [gQ]
@[simp] theorem S_ok : (Rx.ok a e).S Q X = Q a e := (rfl : _ = _).trans rfl
@[simp] theorem S_exc : (Rx.exc x e : Rx α).S Q X = X x e := (rfl : _ = _).trans rfl
@[simp] theorem S_stuck : (Rx.stuck : Rx α).S Q X = False := (rfl : _ = _).trans rfl
@[simp] theorem CS_ok {d : D} {o : List D} {Q : D → List D → Prop} {X : Ex → List D → Prop} : (Cr.ok d o).S Q X = Q d o := by with_unfolding_all exact (rfl : _ = _).trans rfl
@[simp] theorem CS_exc {o : List D} {Q : D → List D → Prop} {X : Ex → List D → Prop} : (Cr.exc x o).S Q X = X x o := by with_unfolding_all exact (rfl : _ = _).trans rfl
@[simp] theorem CS_stuck {Q : D → List D → Prop} {X : Ex → List D → Prop} : Cr.stuck.S Q X = False := by with_unfolding_all exact (rfl : _ = _).trans rfl
theorem S_ext {r : Rx α} {Q' : α → Env → Prop} (h : ∀ a e, Q a e = Q' a e) : r.S Q X = r.S Q' X := by
  have e : Q = Q' := funext fun a => funext fun e => h a e
  subst e; rfl
theorem optK_ext {β : Type} {o : Option β} {k k' : β → Prop} (h : ∀ b, k b = k' b) : optK o k = optK o k' := by
  have e : k = k' := funext h
  subst e; rfl
theorem S_bind {β : Type} {r : Rx β} {k : β → Env → Rx α} : (r.bind k).S Q X = r.S (fun b e => (k b e).S Q X) X := by cases r <;> rfl
theorem S_ite {c : Bool} {r : Rx α} : (if c = true then .stuck else r : Rx α).S Q X = (c = false ∧ r.S Q X) := by cases c <;> simp
theorem S_itep {c : Prop} [Decidable c] {r : Rx α} : (if c then r else .stuck : Rx α).S Q X = (c ∧ r.S Q X) := by split <;> simp [*]
theorem Rx.S_mono {r : Rx α} {Q' : α → Env → Prop} {X' : Ex → Env → Prop} (h : r.S Q X) (hq : ∀ a e, Q a e → Q' a e) (hx : ∀ x e, X x e → X' x e) : r.S Q' X' := by
  cases r with
  | ok a e => exact hq a e h
  | exc x e => exact hx x e h
  | stuck => exact h
theorem Rx.S_mid {r : Rx α} {Q' : α → Env → Prop} {X' : Ex → Env → Prop} (R : α → Env → Prop) (h : r.S R noX) (hq : ∀ a e, R a e → Q' a e) : r.S Q' X' := Rx.S_mono h hq (fun _ _ z => z.elim)
theorem Cr.S_mono {r : Cr} {Q Q' : D → List D → Prop} {X X' : Ex → List D → Prop} (h : r.S Q X) (hq : ∀ a e, Q a e → Q' a e) (hx : ∀ x e, X x e → X' x e) : r.S Q' X' := by
  cases r with
  | ok a e => simp only [CS_ok] at h ⊢; exact hq a e h
  | exc x e => simp only [CS_exc] at h ⊢; exact hx x e h
  | stuck => simp only [CS_stuck] at h
theorem Cr.S_use {r : Cr} {Q Q' : D → List D → Prop} {X' : Ex → List D → Prop} (h : r.S Q noX) (hq : ∀ a e, Q a e → Q' a e) : r.S Q' X' := Cr.S_mono h hq (fun _ _ z => z.elim)
end
def asB : D → Option Bool
  | .bl b => some b
  | _ => none
@[simp] theorem asB_bl {b : Bool} : asB (.bl b) = some b := (rfl : _ = _).trans rfl
def asI : D → Option Int
  | .int b => some b
  | _ => none
@[simp] theorem asI_int {b : Int} : asI (.int b) = some b := (rfl : _ = _).trans rfl
def ixK (x : Vt) (o : Option D) (k : Vt → Prop) (_ : Tg k := .t) : Prop := optK o fun d => (d.pure = false → x.t = true) ∧ k ⟨d, !d.pure⟩
/-! ### environments -/
@[simp] theorem getS_zero {o : Option D} {r : Env} : getS (o :: r) 0 = o := rfl
@[simp] theorem getS_succ {o : Option D} {r : Env} {n : Nat} : getS (o :: r) (n + 1) = getS r n := rfl
@[simp] theorem wipeS_nil {ρ : Env} : wipeS [] ρ = ρ := rfl
@[simp] theorem wipeS_cons {i : Nat} {is : List Nat} {ρ : Env} : wipeS (i :: is) ρ = wipeS is (ρ.set i none) := rfl
@[simp] theorem backS_nil {o ρ : Env} : backS [] o ρ = ρ := rfl
@[simp] theorem backS_cons {i : Nat} {is : List Nat} {o ρ : Env} : backS (i :: is) o ρ = backS is o (ρ.set i (keepP (getS o i))) := rfl
@[simp] theorem keepP_none : keepP none = none := rfl
@[simp] theorem keepP_some {d : D} : keepP (some d) = if d.pure then some d else none := rfl
@[simp] theorem setAll_nil {ds : List D} {ρ : Env} : setAll [] ds ρ = ρ := by cases ds <;> rfl
@[simp] theorem setAll_cons {i : Nat} {is : List Nat} {d : D} {ds : List D} {ρ : Env} : setAll (i :: is) (d :: ds) ρ = setAll is ds (ρ.set i (some d)) := rfl
theorem okS_nil {ρ : Env} : okS [] ρ = true := rfl
theorem okS_cons {i : Nat} {is : List Nat} {ρ : Env} : okS (i :: is) ρ = ((match getS ρ i with | some d => d.pure | none => true) && okS is ρ) := rfl
@[simp] theorem outsOf_nil {ρ : Env} : outsOf [] ρ = some [] := rfl
@[simp] theorem outsOf_cons {i : Nat} {is : List Nat} {ρ : Env} : outsOf (i :: is) ρ = (getS ρ i).bind fun d => (outsOf is ρ).map fun r => d :: r := rfl
/-! ### data -/
@[simp] theorem pure_non : D.pure .non = true := rfl
@[simp] theorem pure_bl {b : Bool} : D.pure (.bl b) = true := rfl
@[simp] theorem pure_int {i : Int} : D.pure (.int i) = true := rfl
@[simp] theorem pure_str {i : Str} : D.pure (.str i) = true := rfl
@[simp] theorem pure_tup {i : List D} : D.pure (.tup i) = true := rfl
@[simp] theorem pure_raw {i : List D} : D.pure (.raw i) = true := rfl
@[simp] theorem pure_lst {m : Bool} {i : List D} : D.pure (.lst m i) = !m := rfl
@[simp] theorem pure_dK {m : Bool} {ks : List Key} {i : List D} : D.pure (.dK m ks i) = !m := rfl
@[simp] theorem pure_dT {m : Bool} {ks : List (List Key)} {i : List D} : D.pure (.dT m ks i) = !m := rfl
@[simp] theorem pure_scr {i : List Int} : D.pure (.scr i) = true := rfl
@[simp] theorem frz_non : D.frz .non = .non := rfl
@[simp] theorem frz_bl {b : Bool} : D.frz (.bl b) = .bl b := rfl
@[simp] theorem frz_int {i : Int} : D.frz (.int i) = .int i := rfl
@[simp] theorem frz_str {i : Str} : D.frz (.str i) = .str i := rfl
@[simp] theorem frz_tup {i : List D} : D.frz (.tup i) = .tup i := rfl
@[simp] theorem frz_raw {i : List D} : D.frz (.raw i) = .raw i := rfl
@[simp] theorem frz_scr {i : List Int} : D.frz (.scr i) = .scr i := rfl
@[simp] theorem frz_lstF {i : List D} : D.frz (.lst false i) = .lst false i := rfl
@[simp] theorem frz_lstT {i : List D} : D.frz (.lst true i) = .lst false (D.frzs i) := rfl
@[simp] theorem frz_dKF {ks : List Key} {i : List D} : D.frz (.dK false ks i) = .dK false ks i := rfl
@[simp] theorem frz_dKT {ks : List Key} {i : List D} : D.frz (.dK true ks i) = .dK false ks (D.frzs i) := rfl
@[simp] theorem frz_dTF {ks : List (List Key)} {i : List D} : D.frz (.dT false ks i) = .dT false ks i := rfl
@[simp] theorem frz_dTT {ks : List (List Key)} {i : List D} : D.frz (.dT true ks i) = .dT false ks (D.frzs i) := rfl
@[simp] theorem frz_pure {d : D} (h : d.pure = true) : d.frz = d := by
  cases d <;> simp_all
@[simp] theorem frzs_nil : D.frzs [] = [] := rfl
@[simp] theorem frzs_cons {x : D} {xs : List D} : D.frzs (x :: xs) = x.frz :: D.frzs xs := rfl
theorem frzs_map {xs : List D} : D.frzs xs = xs.map D.frz := by
  induction xs with
  | nil => rfl
  | cons x xs ih => simp [ih]
@[simp] theorem frzs_append {xs ys : List D} : D.frzs (xs ++ ys) = D.frzs xs ++ D.frzs ys := by simp [frzs_map]
theorem frzs_pures {xs : List D} (h : ∀ x ∈ xs, x.pure = true) : D.frzs xs = xs := by
  rw [frzs_map]
  conv => rhs; rw [← List.map_id xs]
  exact List.map_congr_left fun x hx => frz_pure (h x hx)
@[simp] theorem frzs_mapp {α : Type} {f : α → D} {l : List α} (h : ∀ a, (f a).pure = true) : D.frzs (l.map f) = l.map f := frzs_pures (by simp [h])
@[simp] theorem pures_nil : D.pures [] = true := rfl
@[simp] theorem pures_cons {x : D} {xs : List D} : D.pures (x :: xs) = (x.pure && D.pures xs) := by simp [D.pures]
@[simp] theorem pures_append {xs ys : List D} : D.pures (xs ++ ys) = (D.pures xs && D.pures ys) := by simp [D.pures]
@[simp] theorem pures_mapp {α : Type} {f : α → D} {l : List α} (h : ∀ a, (f a).pure = true) : D.pures (l.map f) = true := by simp [D.pures, h]
theorem pures_iff {xs : List D} : D.pures xs = true ↔ ∀ x ∈ xs, x.pure = true := by simp [D.pures]
@[simp] theorem intsOf_map {l : List Int} : intsOf (l.map D.int) = some l := by
  induction l with
  | nil => rfl
  | cons a l ih => simp [intsOf, ih]
@[simp] theorem intsOf_nil : intsOf [] = some [] := rfl
@[simp] theorem intsOf_cons {i : Int} {l : List D} : intsOf (.int i :: l) = (intsOf l).map fun ns => i :: ns := rfl
@[simp] theorem boolsOf_map {l : List Bool} : boolsOf (l.map D.bl) = some l := by
  induction l with
  | nil => rfl
  | cons a l ih => simp [boolsOf, ih]
@[simp] theorem itemsOf_tup {xs : List D} : itemsOf (.tup xs) = some xs := rfl
@[simp] theorem itemsOf_lst {m : Bool} {xs : List D} : itemsOf (.lst m xs) = some xs := rfl
@[simp] theorem tupItems_tup {xs : List D} : tupItems (.tup xs) = some xs := rfl
@[simp] theorem tupItems_raw {xs : List D} : tupItems (.raw xs) = some xs := rfl
@[simp] theorem keyOf_int {i : Int} : keyOf (.int i) = some (.inl i) := rfl
@[simp] theorem keyOf_str {i : Str} : keyOf (.str i) = some (.inr i) := rfl
/-! binding a target -/
@[simp] theorem bindT_one {i : Nat} {x : D} {ρ : Env} : bindT [i] x ρ = if i < ρ.length then some (ρ.set i (some x)) else none := rfl
@[simp] theorem bindT_two {i j : Nat} {is : List Nat} {x : D} {ρ : Env} : bindT (i :: j :: is) x ρ = (match tupItems x with
    | some xs => if is.length + 2 = xs.length then bindT.go (i :: j :: is) xs ρ else none
    | none => none) := rfl
@[simp] theorem bindGo_nil {xs : List D} {ρ : Env} : bindT.go [] xs ρ = some ρ := by simp [bindT.go]
@[simp] theorem bindGo_cons {i : Nat} {is : List Nat} {x : D} {xs : List D} {ρ : Env} : bindT.go (i :: is) (x :: xs) ρ = if i < ρ.length then bindT.go is xs (ρ.set i (some x)) else none := rfl
/-! ### expressions -/
section
variable {Φ : Phi} {Q : Vt → Env → Prop} {X : Ex → Env → Prop} {ρ : Env}
theorem S_vOf {o : Option D} : (vOf o ρ).S Q X = optK o fun d => Q ⟨d, false⟩ ρ := by cases o <;> rfl
theorem RS_var {i : Nat} : (den Φ (.var i) ρ).S Q X = optK (getS ρ i) fun d => Q ⟨d, !d.pure⟩ ρ := by
  rw [den]; cases getS ρ i <;> rfl
@[simp] theorem S_var {i : Nat} : (dE Φ (.var i) ρ).S Q X = optK (getS ρ i) fun d => Q ⟨d, !d.pure⟩ ρ := by with_unfolding_all exact RS_var
theorem RS_mv {i : Nat} : (den Φ (.mv i) ρ).S Q X = optK (getS ρ i) fun d => Q ⟨d, false⟩ (ρ.set i none) := by
  rw [den]; cases getS ρ i <;> rfl
@[simp] theorem S_mv {i : Nat} : (dE Φ (.mv i) ρ).S Q X = optK (getS ρ i) fun d => Q ⟨d, false⟩ (ρ.set i none) := by with_unfolding_all exact RS_mv
theorem RS_frz {i : Nat} : (den Φ (.frz i) ρ).S Q X = optK (getS ρ i) fun d => Q ⟨d.frz, false⟩ (ρ.set i (some d.frz)) := by
  rw [den]; cases getS ρ i <;> rfl
@[simp] theorem S_frz {i : Nat} : (dE Φ (.frz i) ρ).S Q X = optK (getS ρ i) fun d => Q ⟨d.frz, false⟩ (ρ.set i (some d.frz)) := by with_unfolding_all exact RS_frz
theorem RS_cst {d : D} : (den Φ (.cst d) ρ).S Q X = Q ⟨d, false⟩ ρ := by rw [den]; rfl
@[simp] theorem S_cst {d : D} : (dE Φ (.cst d) ρ).S Q X = Q ⟨d, false⟩ ρ := by with_unfolding_all exact RS_cst
theorem RS_glb {x : Str} {d : D} : (den Φ (.glb x d) ρ).S Q X = Q ⟨d, false⟩ ρ := by rw [den]; rfl
@[simp] theorem S_glb {x : Str} {d : D} : (dE Φ (.glb x d) ρ).S Q X = Q ⟨d, false⟩ ρ := by with_unfolding_all exact RS_glb
theorem RS_bin {op : Operator} {a b : CE} : (den Φ (.bin op a b) ρ).S Q X = (den Φ a ρ).S (fun x ρ => (den Φ b ρ).S (fun y ρ => gQ x.t b.quiet (optK (binD op x.d y.d) fun d => Q ⟨d, false⟩ ρ)) X) X := by
  rw [den]
  simp only [S_bind, S_ite, S_vOf, gQ]
  refine S_ext fun x ρ => ?_; try simp only [S_bind, S_ite, S_itep, S_vOf]; refine S_ext fun y ρ => ?_; try simp only [S_bind, S_ite, S_itep, S_vOf]
  cases x.t <;> cases b.quiet <;> simp
@[simp] theorem S_bin {op : Operator} {a b : CE} : (dE Φ (.bin op a b) ρ).S Q X = (dE Φ a ρ).S (fun x ρ => (dE Φ b ρ).S (fun y ρ => gQ x.t b.quiet (optK (binD op x.d y.d) fun d => Q ⟨d, false⟩ ρ)) X) X := by with_unfolding_all exact RS_bin
theorem RS_neg {a : CE} : (den Φ (.neg a) ρ).S Q X = (den Φ a ρ).S (fun x ρ => optK (asI x.d) fun i => Q ⟨.int (-i), false⟩ ρ) X := by
  rw [den]
  simp only [S_bind]
  refine S_ext fun x ρ => ?_; try simp only [S_bind, S_ite, S_itep, S_vOf]
  cases x.d <;> rfl
@[simp] theorem S_neg {a : CE} : (dE Φ (.neg a) ρ).S Q X = (dE Φ a ρ).S (fun x ρ => optK (asI x.d) fun i => Q ⟨.int (-i), false⟩ ρ) X := by with_unfolding_all exact RS_neg
theorem RS_not {a : CE} : (den Φ (.not a) ρ).S Q X = (den Φ a ρ).S (fun x ρ => optK (asB x.d) fun i => Q ⟨.bl (!i), false⟩ ρ) X := by
  rw [den]
  simp only [S_bind]
  refine S_ext fun x ρ => ?_; try simp only [S_bind, S_ite, S_itep, S_vOf]
  cases x.d <;> rfl
@[simp] theorem S_not {a : CE} : (dE Φ (.not a) ρ).S Q X = (dE Φ a ρ).S (fun x ρ => optK (asB x.d) fun i => Q ⟨.bl (!i), false⟩ ρ) X := by with_unfolding_all exact RS_not
theorem RS_cmp {op : CmpOp} {a b : CE} : (den Φ (.cmp op a b) ρ).S Q X = (den Φ a ρ).S (fun x ρ => (den Φ b ρ).S (fun y ρ => gQ x.t b.quiet (optK (cmpD op x.d y.d) fun d => Q ⟨.bl d, false⟩ ρ)) X) X := by
  rw [den]
  simp only [S_bind, S_ite, S_vOf, gQ]
  refine S_ext fun x ρ => ?_; try simp only [S_bind, S_ite, S_itep, S_vOf]; refine S_ext fun y ρ => ?_; try simp only [S_bind, S_ite, S_itep, S_vOf]
  cases x.t <;> cases b.quiet <;> cases cmpD op x.d y.d <;> simp
@[simp] theorem S_cmp {op : CmpOp} {a b : CE} : (dE Φ (.cmp op a b) ρ).S Q X = (dE Φ a ρ).S (fun x ρ => (dE Φ b ρ).S (fun y ρ => gQ x.t b.quiet (optK (cmpD op x.d y.d) fun d => Q ⟨.bl d, false⟩ ρ)) X) X := by with_unfolding_all exact RS_cmp
theorem RS_chn {op op2 : CmpOp} {a b c : CE} : (den Φ (.chn op op2 a b c) ρ).S Q X = (den Φ a ρ).S (fun x ρ => (den Φ b ρ).S (fun y ρ => optK (asI x.d) fun i => optK (asI y.d) fun j => optK (cmpD op (.int i) (.int j)) fun u =>
    condK u ((den Φ c ρ).S (fun z ρ => optK (asI z.d) fun k => optK (cmpD op2 (.int j) (.int k)) fun v => Q ⟨.bl v, false⟩ ρ) X) (Q ⟨.bl false, false⟩ ρ)) X) X := by
  rw [den, S_bind]
  refine S_ext fun x ρ => ?_
  rw [S_bind]
  refine S_ext fun y ρ => ?_
  obtain ⟨dx, tx⟩ := x
  obtain ⟨dy, ty⟩ := y
  cases dx <;> try rfl
  cases dy <;> try rfl
  rename_i i j
  simp only [asI_int, optK_some]
  cases cmpD op (.int i) (.int j) with
  | none => rfl
  | some u =>
    cases u with
    | false => simp
    | true =>
      simp only [optK_some, condK_true]
      rw [S_bind]
      refine S_ext fun z ρ => ?_
      obtain ⟨dz, tz⟩ := z
      cases dz <;> try rfl
      rename_i k
      simp only [asI_int, optK_some]
      cases cmpD op2 (.int j) (.int k) <;> rfl
@[simp] theorem S_chn {op op2 : CmpOp} {a b c : CE} : (dE Φ (.chn op op2 a b c) ρ).S Q X = (dE Φ a ρ).S (fun x ρ => (dE Φ b ρ).S (fun y ρ => optK (asI x.d) fun i => optK (asI y.d) fun j => optK (cmpD op (.int i) (.int j)) fun u =>
    condK u ((dE Φ c ρ).S (fun z ρ => optK (asI z.d) fun k => optK (cmpD op2 (.int j) (.int k)) fun v => Q ⟨.bl v, false⟩ ρ) X) (Q ⟨.bl false, false⟩ ρ)) X) X := by with_unfolding_all exact RS_chn
theorem RS_bop {and : Bool} {es : CEs} : (den Φ (.bop and es) ρ).S Q X = (denB Φ and es ρ).S Q X := by rw [den]
@[simp] theorem S_bop {and : Bool} {es : CEs} : (dE Φ (.bop and es) ρ).S Q X = (dB Φ and es ρ).S Q X := by with_unfolding_all exact RS_bop
theorem RSB_one {and : Bool} {e : CE} : (denB Φ and (.cons e .nil) ρ).S Q X = (den Φ e ρ).S Q X := by rw [denB]
@[simp] theorem SB_one {and : Bool} {e : CE} : (dB Φ and (.cons e .nil) ρ).S Q X = (dE Φ e ρ).S Q X := by with_unfolding_all exact RSB_one
theorem RSB_two {and : Bool} {e e2 : CE} {es : CEs} : (denB Φ and (.cons e (.cons e2 es)) ρ).S Q X = (den Φ e ρ).S (fun x ρ => optK (asB x.d) fun b => condK b (condK and ((denB Φ and (.cons e2 es) ρ).S Q X) (Q ⟨.bl true, false⟩ ρ)) (condK and (Q ⟨.bl false, false⟩ ρ) ((denB Φ and (.cons e2 es) ρ).S Q X))) X := by
  rw [denB]
  simp only [S_bind]
  refine S_ext fun x ρ => ?_; try simp only [S_bind, S_ite, S_itep, S_vOf]
  cases x.d <;> simp [asB]
  rename_i b
  cases b <;> cases and <;> simp
theorem SB_two {and : Bool} {e e2 : CE} {es : CEs} : (dB Φ and (.cons e (.cons e2 es)) ρ).S Q X = (dE Φ e ρ).S (fun x ρ => optK (asB x.d) fun b => condK b (condK and ((dB Φ and (.cons e2 es) ρ).S Q X) (Q ⟨.bl true, false⟩ ρ)) (condK and (Q ⟨.bl false, false⟩ ρ) ((dB Φ and (.cons e2 es) ρ).S Q X))) X := by with_unfolding_all exact RSB_two
@[simp] theorem SB_and {e e2 : CE} {es : CEs} : (dB Φ true (.cons e (.cons e2 es)) ρ).S Q X = (dE Φ e ρ).S (fun x ρ => optK (asB x.d) fun b => condK b ((dB Φ true (.cons e2 es) ρ).S Q X) (Q ⟨.bl false, false⟩ ρ)) X := by
  rw [SB_two]
  refine S_ext fun x ρ => optK_ext fun b => ?_
  cases b <;> simp
@[simp] theorem SB_or {e e2 : CE} {es : CEs} : (dB Φ false (.cons e (.cons e2 es)) ρ).S Q X = (dE Φ e ρ).S (fun x ρ => optK (asB x.d) fun b => condK b (Q ⟨.bl true, false⟩ ρ) ((dB Φ false (.cons e2 es) ρ).S Q X)) X := by
  rw [SB_two]
  refine S_ext fun x ρ => optK_ext fun b => ?_
  cases b <;> simp
theorem RS_ifx {c a b : CE} : (den Φ (.ifx c a b) ρ).S Q X = (den Φ c ρ).S (fun x ρ => optK (asB x.d) fun k => condK k ((den Φ a ρ).S Q X) ((den Φ b ρ).S Q X)) X := by
  rw [den]
  simp only [S_bind]
  refine S_ext fun x ρ => ?_; try simp only [S_bind, S_ite, S_itep, S_vOf]
  cases x.d <;> simp [asB]
  rename_i b
  cases b <;> simp
@[simp] theorem S_ifx {c a b : CE} : (dE Φ (.ifx c a b) ρ).S Q X = (dE Φ c ρ).S (fun x ρ => optK (asB x.d) fun k => condK k ((dE Φ a ρ).S Q X) ((dE Φ b ρ).S Q X)) X := by with_unfolding_all exact RS_ifx
theorem RS_tup {es : CEs} : (den Φ (.tup es) ρ).S Q X = (denEs Φ es ρ).S (fun xs ρ => Q ⟨.tup (D.frzs xs), false⟩ ρ) X := by rw [den, S_bind]; rfl
@[simp] theorem S_tup {es : CEs} : (dE Φ (.tup es) ρ).S Q X = (dEs Φ es ρ).S (fun xs ρ => Q ⟨.tup (D.frzs xs), false⟩ ρ) X := by with_unfolding_all exact RS_tup
theorem RS_rtup {es : CEs} : (den Φ (.rtup es) ρ).S Q X = (denEs Φ es ρ).S (fun xs ρ => Q ⟨.raw (D.frzs xs), false⟩ ρ) X := by rw [den, S_bind]; rfl
@[simp] theorem S_rtup {es : CEs} : (dE Φ (.rtup es) ρ).S Q X = (dEs Φ es ρ).S (fun xs ρ => Q ⟨.raw (D.frzs xs), false⟩ ρ) X := by with_unfolding_all exact RS_rtup
theorem RS_lst {own : Bool} {es : CEs} : (den Φ (.lst own es) ρ).S Q X = (denEs Φ es ρ).S (fun xs ρ => Q ⟨.lst true (if own then xs else D.frzs xs), false⟩ ρ) X := by rw [den, S_bind]; rfl
@[simp] theorem S_lst {own : Bool} {es : CEs} : (dE Φ (.lst own es) ρ).S Q X = (dEs Φ es ρ).S (fun xs ρ => Q ⟨.lst true (if own then xs else D.frzs xs), false⟩ ρ) X := by with_unfolding_all exact RS_lst
theorem RSEs_nil {Q : List D → Env → Prop} : (denEs Φ .nil ρ).S Q X = Q [] ρ := by rw [denEs]; rfl
@[simp] theorem SEs_nil {Q : List D → Env → Prop} : (dEs Φ .nil ρ).S Q X = Q [] ρ := by with_unfolding_all exact RSEs_nil
theorem RSEs_cons {e : CE} {es : CEs} {Q : List D → Env → Prop} : (denEs Φ (.cons e es) ρ).S Q X = (den Φ e ρ).S (fun x ρ => gQ x.t false ((denEs Φ es ρ).S (fun xs ρ => Q (x.d :: xs) ρ) X)) X := by
  rw [denEs]
  simp only [S_bind, S_ite]
  refine S_ext fun x ρ => ?_; try simp only [S_bind, S_ite, S_itep, S_vOf]
  cases x.t with
  | false => simp only [gQ_false, true_and]; exact S_ext fun _ _ => S_ok
  | true => simp
@[simp] theorem SEs_cons {e : CE} {es : CEs} {Q : List D → Env → Prop} : (dEs Φ (.cons e es) ρ).S Q X = (dE Φ e ρ).S (fun x ρ => gQ x.t false ((dEs Φ es ρ).S (fun xs ρ => Q (x.d :: xs) ρ) X)) X := by with_unfolding_all exact RSEs_cons
theorem RS_dnew {tk : Bool} : (den Φ (.dnew tk) ρ).S Q X = Q ⟨if tk then .dT true [] [] else .dK true [] [], false⟩ ρ := by rw [den]; rfl
@[simp] theorem S_dnew {tk : Bool} : (dE Φ (.dnew tk) ρ).S Q X = Q ⟨if tk then .dT true [] [] else .dK true [] [], false⟩ ρ := by with_unfolding_all exact RS_dnew
theorem RS_done {k v : CE} : (den Φ (.done k v) ρ).S Q X = (den Φ k ρ).S (fun x ρ => (den Φ v ρ).S (fun y ρ => gQ y.t false (optK (keyOf x.d) fun k => Q ⟨.dK true [k] [y.d.frz], false⟩ ρ)) X) X := by
  rw [den]
  simp only [S_bind, S_ite]
  refine S_ext fun x ρ => ?_; try simp only [S_bind, S_ite, S_itep, S_vOf]; refine S_ext fun y ρ => ?_; try simp only [S_bind, S_ite, S_itep, S_vOf]
  cases y.t <;> cases keyOf x.d <;> simp [gQ]
@[simp] theorem S_done {k v : CE} : (dE Φ (.done k v) ρ).S Q X = (dE Φ k ρ).S (fun x ρ => (dE Φ v ρ).S (fun y ρ => gQ y.t false (optK (keyOf x.d) fun k => Q ⟨.dK true [k] [y.d.frz], false⟩ ρ)) X) X := by with_unfolding_all exact RS_done
theorem RS_ix {a b : CE} : (den Φ (.ix a b) ρ).S Q X = (den Φ a ρ).S (fun x ρ => (den Φ b ρ).S (fun y ρ => gQ x.t b.quiet (ixK x (ixD x.d y.d) fun v => Q v ρ)) X) X := by
  rw [den]
  simp only [S_bind, S_ite]
  refine S_ext fun x ρ => ?_; try simp only [S_bind, S_ite, S_itep, S_vOf]; refine S_ext fun y ρ => ?_; try simp only [S_bind, S_ite, S_itep, S_vOf]
  cases hx : x.t <;> cases b.quiet <;> cases h : ixD x.d y.d <;> simp [gQ, ixK, hx]
  all_goals rename_i d; cases d.pure <;> simp
@[simp] theorem S_ix {a b : CE} : (dE Φ (.ix a b) ρ).S Q X = (dE Φ a ρ).S (fun x ρ => (dE Φ b ρ).S (fun y ρ => gQ x.t b.quiet (ixK x (ixD x.d y.d) fun v => Q v ρ)) X) X := by with_unfolding_all exact RS_ix
theorem RS_slc {a : CE} {lo hi : CO} : (den Φ (.slc a lo hi) ρ).S Q X = (den Φ a ρ).S (fun x ρ => (denO Φ lo ρ).S (fun l ρ => (denO Φ hi ρ).S (fun h ρ => gQ x.t (lo.quiet && hi.quiet) (optK (slcD x.d l h) fun d => Q ⟨d, false⟩ ρ)) X) X) X := by
  rw [den]
  simp only [S_bind, S_ite, S_vOf]
  refine S_ext fun x ρ => ?_; try simp only [S_bind, S_ite, S_itep, S_vOf]; refine S_ext fun l ρ => ?_; try simp only [S_bind, S_ite, S_itep, S_vOf]; refine S_ext fun h ρ => ?_; try simp only [S_bind, S_ite, S_itep, S_vOf]
  cases x.t <;> cases (lo.quiet && hi.quiet) <;> simp [gQ]
@[simp] theorem S_slc {a : CE} {lo hi : CO} : (dE Φ (.slc a lo hi) ρ).S Q X = (dE Φ a ρ).S (fun x ρ => (dO Φ lo ρ).S (fun l ρ => (dO Φ hi ρ).S (fun h ρ => gQ x.t (lo.quiet && hi.quiet) (optK (slcD x.d l h) fun d => Q ⟨d, false⟩ ρ)) X) X) X := by with_unfolding_all exact RS_slc
theorem RSO_no {Q : Option Int → Env → Prop} : (denO Φ .no ρ).S Q X = Q none ρ := by rw [denO]; rfl
@[simp] theorem SO_no {Q : Option Int → Env → Prop} : (dO Φ .no ρ).S Q X = Q none ρ := by with_unfolding_all exact RSO_no
theorem RSO_yes {e : CE} {Q : Option Int → Env → Prop} : (denO Φ (.yes e) ρ).S Q X = (den Φ e ρ).S (fun x ρ => optK (asI x.d) fun i => Q (some i) ρ) X := by
  rw [denO]
  simp only [S_bind]
  refine S_ext fun x ρ => ?_; try simp only [S_bind, S_ite, S_itep, S_vOf]
  cases x.d <;> rfl
@[simp] theorem SO_yes {e : CE} {Q : Option Int → Env → Prop} : (dO Φ (.yes e) ρ).S Q X = (dE Φ e ρ).S (fun x ρ => optK (asI x.d) fun i => Q (some i) ρ) X := by with_unfolding_all exact RSO_yes
theorem RS_rev {a : CE} : (den Φ (.rev a) ρ).S Q X = (den Φ a ρ).S (fun x ρ => optK (revD x.d) fun d => Q ⟨d, false⟩ ρ) X := by
  rw [den, S_bind]
  exact S_ext fun x ρ => S_vOf
@[simp] theorem S_rev {a : CE} : (dE Φ (.rev a) ρ).S Q X = (dE Φ a ρ).S (fun x ρ => optK (revD x.d) fun d => Q ⟨d, false⟩ ρ) X := by with_unfolding_all exact RS_rev
def callK (bor : Bool) (ios : List Nat) (ρ : Env) (Q : Vt → Env → Prop) (_ : Tg Q) (d : D) (outs : List D) : Prop := (bor = true → d.flat = true ∧ ios = []) ∧ outs.length = ios.length ∧ Q ⟨d, false⟩ (setAll ios outs ρ)
def callX (bor : Bool) (ios : List Nat) (ρ : Env) (X : Ex → Env → Prop) (_ : Tg X) (x : Ex) (outs : List D) : Prop := bor = false ∧ outs.length = ios.length ∧ X x (setAll ios outs ρ)
@[simp] theorem callK_no {ios : List Nat} {d : D} {outs : List D} : callK false ios ρ Q .t d outs = (outs.length = ios.length ∧ Q ⟨d, false⟩ (setAll ios outs ρ)) := by simp [callK]
@[simp] theorem callK_yes {ios : List Nat} {d : D} {outs : List D} : callK true ios ρ Q .t d outs = (d.flat = true ∧ ios = [] ∧ outs.length = ios.length ∧ Q ⟨d, false⟩ (setAll ios outs ρ)) := by simp [callK, and_assoc]
theorem RS_call {f : Nat} {as : CA} : (den Φ (.call f as) ρ).S Q X = (denA Φ as ρ).S (fun vs ρ => optK (as.fill vs ρ) fun args => (Φ f args).S (callK as.hasBor as.ios ρ Q .t) (callX as.hasBor as.ios ρ X .t)) X := by
  rw [den]
  simp only [S_bind]
  refine S_ext fun vs ρ => ?_; try simp only [S_bind, S_ite, S_itep, S_vOf]
  cases as.fill vs ρ with
  | none => rfl
  | some args =>
    simp only [optK_some]
    cases Φ f args with
    | stuck => simp
    | ok d outs =>
      simp only [CS_ok, callK]
      cases as.hasBor <;> cases d.flat <;> cases hh : as.ios <;> simp [S_itep]
    | exc x outs =>
      simp only [CS_exc, callX]
      cases as.hasBor <;> simp [S_itep]
@[simp] theorem S_call {f : Nat} {as : CA} : (dE Φ (.call f as) ρ).S Q X = (dA Φ as ρ).S (fun vs ρ => optK (as.fill vs ρ) fun args => (Φ f args).S (callK as.hasBor as.ios ρ Q .t) (callX as.hasBor as.ios ρ X .t)) X := by with_unfolding_all exact RS_call
theorem RSA_nil {Q : List D → Env → Prop} : (denA Φ .nil ρ).S Q X = Q [] ρ := by rw [denA]; rfl
@[simp] theorem SA_nil {Q : List D → Env → Prop} : (dA Φ .nil ρ).S Q X = Q [] ρ := by with_unfolding_all exact RSA_nil
theorem RSA_val {e : CE} {as : CA} {Q : List D → Env → Prop} : (denA Φ (.val e as) ρ).S Q X = (den Φ e ρ).S (fun x ρ => gQ x.t false ((denA Φ as ρ).S (fun xs ρ => Q (x.d.frz :: xs) ρ) X)) X := by
  rw [denA]
  simp only [S_bind, S_ite]
  refine S_ext fun x ρ => ?_; try simp only [S_bind, S_ite, S_itep, S_vOf]
  cases x.t with
  | false => simp only [gQ_false, true_and]; exact S_ext fun _ _ => S_ok
  | true => simp
@[simp] theorem SA_val {e : CE} {as : CA} {Q : List D → Env → Prop} : (dA Φ (.val e as) ρ).S Q X = (dE Φ e ρ).S (fun x ρ => gQ x.t false ((dA Φ as ρ).S (fun xs ρ => Q (x.d.frz :: xs) ρ) X)) X := by with_unfolding_all exact RSA_val
theorem RSA_io {i : Nat} {as : CA} {Q : List D → Env → Prop} : (denA Φ (.io i as) ρ).S Q X = ((getS ρ i).isSome = true ∧ (denA Φ as ρ).S Q X) := by
  rw [denA]; exact S_itep
@[simp] theorem SA_io {i : Nat} {as : CA} {Q : List D → Env → Prop} : (dA Φ (.io i as) ρ).S Q X = ((getS ρ i).isSome = true ∧ (dA Φ as ρ).S Q X) := by with_unfolding_all exact RSA_io
theorem RSA_bor {i : Nat} {as : CA} {Q : List D → Env → Prop} : (denA Φ (.bor i as) ρ).S Q X = ((getS ρ i).isSome = true ∧ (denA Φ as ρ).S Q X) := by
  rw [denA]; exact S_itep
@[simp] theorem SA_bor {i : Nat} {as : CA} {Q : List D → Env → Prop} : (dA Φ (.bor i as) ρ).S Q X = ((getS ρ i).isSome = true ∧ (dA Φ as ρ).S Q X) := by with_unfolding_all exact RSA_bor
@[simp] theorem bor_nil : CA.hasBor .nil = false := rfl
@[simp] theorem bor_val {e : CE} {as : CA} : CA.hasBor (.val e as) = as.hasBor := by rw [CA.hasBor]
@[simp] theorem bor_io {i : Nat} {as : CA} : CA.hasBor (.io i as) = as.hasBor := by rw [CA.hasBor]
@[simp] theorem bor_bor {i : Nat} {as : CA} : CA.hasBor (.bor i as) = true := by rw [CA.hasBor]
@[simp] theorem ios_nil : CA.ios .nil = [] := rfl
@[simp] theorem ios_val {e : CE} {as : CA} : CA.ios (.val e as) = as.ios := by rw [CA.ios]
@[simp] theorem ios_io {i : Nat} {as : CA} : CA.ios (.io i as) = i :: as.ios := by rw [CA.ios]
@[simp] theorem ios_bor {i : Nat} {as : CA} : CA.ios (.bor i as) = as.ios := by rw [CA.ios]
@[simp] theorem fill_nil : CA.fill .nil [] ρ = some [] := rfl
@[simp] theorem fill_val {e : CE} {as : CA} {v : D} {vs : List D} : CA.fill (.val e as) (v :: vs) ρ = (as.fill vs ρ).map fun r => v :: r := by rw [CA.fill]
@[simp] theorem fill_io {i : Nat} {as : CA} {vs : List D} : CA.fill (.io i as) vs ρ = (getS ρ i).bind fun d => (as.fill vs ρ).map fun r => d :: r := by rw [CA.fill]
@[simp] theorem fillC_bor {i : Nat} {as : CA} {vs : List D} : CA.fill (.bor i as) vs ρ = (getS ρ i).bind fun d => (as.fill vs ρ).map fun r => d.frz :: r := by rw [CA.fill]
theorem RS_rng {tp : Bool} {a : CE} : (den Φ (.rng tp a) ρ).S Q X = (den Φ a ρ).S (fun x ρ => optK (asI x.d) fun n => (-1000000 ≤ n ∧ n ≤ 1000000) ∧ Q ⟨if tp then .tup (rangeD 0 n.toNat) else .lst true (rangeD 0 n.toNat), false⟩ ρ) X := by
  rw [den]
  simp only [S_bind]
  refine S_ext fun x ρ => ?_; try simp only [S_bind, S_ite, S_itep, S_vOf]
  cases x.d <;> simp [asI, S_itep]
@[simp] theorem S_rng {tp : Bool} {a : CE} : (dE Φ (.rng tp a) ρ).S Q X = (dE Φ a ρ).S (fun x ρ => optK (asI x.d) fun n => (-1000000 ≤ n ∧ n ≤ 1000000) ∧ Q ⟨if tp then .tup (rangeD 0 n.toNat) else .lst true (rangeD 0 n.toNat), false⟩ ρ) X := by with_unfolding_all exact RS_rng
theorem RS_b1 {b : B1} {a : CE} : (den Φ (.b1 b a) ρ).S Q X = (den Φ a ρ).S (fun x ρ => optK (b1D b x.d) fun d => Q ⟨d, false⟩ ρ) X := by
  rw [den, S_bind]
  exact S_ext fun x ρ => S_vOf
@[simp] theorem S_b1 {b : B1} {a : CE} : (dE Φ (.b1 b a) ρ).S Q X = (dE Φ a ρ).S (fun x ρ => optK (b1D b x.d) fun d => Q ⟨d, false⟩ ρ) X := by with_unfolding_all exact RS_b1
theorem RS_b2 {b : B2} {a c : CE} : (den Φ (.b2 b a c) ρ).S Q X = (den Φ a ρ).S (fun x ρ => (den Φ c ρ).S (fun y ρ => optK (b2D b x.d y.d) fun d => Q ⟨d, false⟩ ρ) X) X := by
  rw [den, S_bind]
  refine S_ext fun x ρ => ?_
  rw [S_bind]
  exact S_ext fun y ρ => S_vOf
@[simp] theorem S_b2 {b : B2} {a c : CE} : (dE Φ (.b2 b a c) ρ).S Q X = (dE Φ a ρ).S (fun x ρ => (dE Φ c ρ).S (fun y ρ => optK (b2D b x.d y.d) fun d => Q ⟨d, false⟩ ρ) X) X := by with_unfolding_all exact RS_b2
theorem RS_isi {a : CE} {t : Ty} : (den Φ (.isi a t) ρ).S Q X = (den Φ a ρ).S (fun x ρ => Q ⟨.bl (isiD t x.d), false⟩ ρ) X := by
  rw [den]
  simp only [S_bind]
  rfl
@[simp] theorem S_isi {a : CE} {t : Ty} : (dE Φ (.isi a t) ρ).S Q X = (dE Φ a ρ).S (fun x ρ => Q ⟨.bl (isiD t x.d), false⟩ ρ) X := by with_unfolding_all exact RS_isi
theorem RS_cnt {a b : CE} : (den Φ (.cnt a b) ρ).S Q X = (den Φ a ρ).S (fun x ρ => (den Φ b ρ).S (fun y ρ => gQ x.t b.quiet (optK (cntD x.d y.d) fun d => Q ⟨d, false⟩ ρ)) X) X := by
  rw [den]
  simp only [S_bind, S_ite, S_vOf, gQ]
  refine S_ext fun x ρ => ?_; try simp only [S_bind, S_ite, S_itep, S_vOf]; refine S_ext fun y ρ => ?_; try simp only [S_bind, S_ite, S_itep, S_vOf]
  cases x.t <;> cases b.quiet <;> simp
@[simp] theorem S_cnt {a b : CE} : (dE Φ (.cnt a b) ρ).S Q X = (dE Φ a ρ).S (fun x ρ => (dE Φ b ρ).S (fun y ρ => gQ x.t b.quiet (optK (cntD x.d y.d) fun d => Q ⟨d, false⟩ ρ)) X) X := by with_unfolding_all exact RS_cnt
theorem RS_mth {p : CP} {m : Mt} {es : CEs} : (den Φ (.mth p m es) ρ).S Q X = (denP Φ p ρ).S (fun ks ρ => (((getS ρ p.root).bind fun d => walkD d ks).any (mtK m) = true) ∧ (denEs Φ es ρ).S (fun vs ρ => gQ (!p.isVar) es.quiet (optK (mtF m vs) fun f => optK ((getS ρ p.root).bind fun d => updAt f ks d) fun r => Q ⟨r.1, false⟩ (ρ.set p.root (some r.2)))) X) X := by
  rw [den]
  simp only [S_bind, S_ite]
  refine S_ext fun ks ρ => ?_; try simp only [S_bind, S_ite, S_itep, S_vOf]
  cases (((getS ρ p.root).bind fun d => walkD d ks).any (mtK m)) with
  | false => simp
  | true =>
    simp only [Bool.not_true, true_and]
    refine S_ext fun vs ρ => ?_
    rw [S_ite]
    cases p.isVar <;> cases es.quiet <;> cases mtF m vs <;> simp [gQ]
    all_goals
      rename_i f
      cases ((getS ρ p.root).bind fun d => updAt f ks d) <;> simp
@[simp] theorem S_mth {p : CP} {m : Mt} {es : CEs} : (dE Φ (.mth p m es) ρ).S Q X = (dP Φ p ρ).S (fun ks ρ => (((getS ρ p.root).bind fun d => walkD d ks).any (mtK m) = true) ∧ (dEs Φ es ρ).S (fun vs ρ => gQ (!p.isVar) es.quiet (optK (mtF m vs) fun f => optK ((getS ρ p.root).bind fun d => updAt f ks d) fun r => Q ⟨r.1, false⟩ (ρ.set p.root (some r.2)))) X) X := by with_unfolding_all exact RS_mth
theorem RSP_var {i : Nat} {Q : List D → Env → Prop} : (denP Φ (.var i) ρ).S Q X = ((getS ρ i).isSome = true ∧ Q [] ρ) := by
  rw [denP]; exact S_itep
@[simp] theorem SP_var {i : Nat} {Q : List D → Env → Prop} : (dP Φ (.var i) ρ).S Q X = ((getS ρ i).isSome = true ∧ Q [] ρ) := by with_unfolding_all exact RSP_var
theorem RSP_ix {p : CP} {e : CE} {Q : List D → Env → Prop} : (denP Φ (.ix p e) ρ).S Q X = ((p.quiet && e.quiet) = true ∧ (denP Φ p ρ).S (fun ks ρ => (den Φ e ρ).S (fun x ρ => ((getS ρ p.root).bind fun d => walkD d (ks ++ [x.d])).isSome = true ∧ Q (ks ++ [x.d]) ρ) X) X) := by
  rw [denP, S_itep, S_bind]
  congr 1
  refine S_ext fun ks ρ => ?_
  rw [S_bind]
  refine S_ext fun x ρ => ?_
  exact S_itep
@[simp] theorem SP_ix {p : CP} {e : CE} {Q : List D → Env → Prop} : (dP Φ (.ix p e) ρ).S Q X = ((p.quiet && e.quiet) = true ∧ (dP Φ p ρ).S (fun ks ρ => (dE Φ e ρ).S (fun x ρ => ((getS ρ p.root).bind fun d => walkD d (ks ++ [x.d])).isSome = true ∧ Q (ks ++ [x.d]) ρ) X) X) := by with_unfolding_all exact RSP_ix
@[simp] theorem root_var {i : Nat} : CP.root (.var i) = i := rfl
@[simp] theorem root_ix {p : CP} {e : CE} : CP.root (.ix p e) = p.root := by rw [CP.root]
@[simp] theorem isVar_var {i : Nat} : CP.isVar (.var i) = true := rfl
@[simp] theorem isVar_ix {p : CP} {e : CE} : CP.isVar (.ix p e) = false := rfl
theorem RSC_nil {Q : Bool → Env → Prop} : (denC Φ .nil ρ).S Q X = Q true ρ := by rw [denC]; rfl
@[simp] theorem SC_nil {Q : Bool → Env → Prop} : (dC Φ .nil ρ).S Q X = Q true ρ := by with_unfolding_all exact RSC_nil
theorem RSC_one {e : CE} {Q : Bool → Env → Prop} : (denC Φ (.cons e .nil) ρ).S Q X = (den Φ e ρ).S (fun x ρ => optK (asB x.d) fun b => Q b ρ) X := by
  rw [denC]
  simp only [S_bind]
  refine S_ext fun x ρ => ?_; try simp only [S_bind, S_ite, S_itep, S_vOf]
  cases x.d <;> rfl
@[simp] theorem SC_one {e : CE} {Q : Bool → Env → Prop} : (dC Φ (.cons e .nil) ρ).S Q X = (dE Φ e ρ).S (fun x ρ => optK (asB x.d) fun b => Q b ρ) X := by with_unfolding_all exact RSC_one
def eltF (Φ : Phi) (own : Bool) (elt : CE) (ρ : Env) (_ : Tg elt := .t) : Rx D := (dE Φ elt ρ).bind fun y ρ => if y.t then .stuck else .ok (if own then y.d else y.d.frz) ρ
@[simp] theorem S_eltF {own : Bool} {elt : CE} {Q : D → Env → Prop} : (eltF Φ own elt ρ).S Q X = (dE Φ elt ρ).S (fun y ρ => gQ y.t false (Q (if own then y.d else y.d.frz) ρ)) X := by
  unfold eltF
  rw [S_bind]
  refine S_ext fun x ρ => ?_
  rw [S_ite]
  cases x.t <;> simp [gQ]
def lcX (Φ : Phi) (own : Bool) (elt : CE) (tg : List Nat) (cond : CEs) (xs : List D) (acc : List D) (ρ : Env) (_ : Tg elt := .t) (_ : Tg cond := .t) : Rx (List D) := lcL (bindT tg) (fun ρ => dC Φ cond ρ) (fun ρ => eltF Φ own elt ρ) (okS tg) (wipeS tg) xs acc ρ
theorem RS_lc {own : Bool} {elt : CE} {tg : List Nat} {it : CI} {cond : CEs} : (den Φ (.lc own elt tg it cond) ρ).S Q X = (denI Φ it ρ).S (fun xs ρ => gQ xs.t (elt.quiet && cond.quiet) (xs.d.length < sizeLine ∧ okS tg ρ = true ∧ (lcX Φ own elt tg cond xs.d [] (wipeS tg ρ)).S (fun ys ρ' => Q ⟨.lst true ys, false⟩ (backS tg ρ ρ')) noX)) X := by
  rw [den, S_bind]
  refine S_ext fun xs ρ => ?_
  rw [S_ite, S_itep]
  have e4 : ∀ r, lcX Φ own elt tg cond xs.d [] (wipeS tg ρ) = r → lcL (bindT tg) (denC Φ cond) (fun ρ => (den Φ elt ρ).bind fun y ρ => if y.t = true then Rx.stuck else Rx.ok (if own = true then y.d else y.d.frz) ρ) (okS tg) (wipeS tg) xs.d [] (wipeS tg ρ) = r := fun r h => by with_unfolding_all exact h
  generalize lcX Φ own elt tg cond xs.d [] (wipeS tg ρ) = r at e4 ⊢
  rw [e4 r rfl]
  have e5 : ∀ (a b : Bool) (p q : Prop) (u : Prop), ((a && !b) = false ∧ (p ∧ q) ∧ u) = gQ a b (p ∧ q ∧ u) := fun a b p q u => by
    cases a <;> cases b <;> simp [gQ, and_assoc]
  cases r <;> exact e5 _ _ _ _ _
@[simp] theorem S_lc {own : Bool} {elt : CE} {tg : List Nat} {it : CI} {cond : CEs} : (dE Φ (.lc own elt tg it cond) ρ).S Q X = (dI Φ it ρ).S (fun xs ρ => gQ xs.t (elt.quiet && cond.quiet) (xs.d.length < sizeLine ∧ okS tg ρ = true ∧ (lcX Φ own elt tg cond xs.d [] (wipeS tg ρ)).S (fun ys ρ' => Q ⟨.lst true ys, false⟩ (backS tg ρ ρ')) noX)) X := by with_unfolding_all exact RS_lc
theorem RSI_seq {e : CE} {Q : LvT → Env → Prop} : (denI Φ (.seq e) ρ).S Q X = (den Φ e ρ).S (fun x ρ => condK x.t (optK (itemsOf x.d) fun xs => D.pures xs = true ∧ Q ⟨xs, true⟩ ρ) (optK (itemsOf x.d.frz) fun xs => Q ⟨xs, false⟩ ρ)) X := by
  rw [denI]
  simp only [S_bind]
  refine S_ext fun x ρ => ?_; try simp only [S_bind, S_ite, S_itep, S_vOf]
  obtain ⟨d, t⟩ := x
  cases d with
  | lst m xs => cases t <;> cases m <;> simp [itemsOf, S_itep]
  | tup xs => cases t <;> simp [itemsOf, S_itep]
  | dK m ks xs => cases t <;> cases m <;> simp [itemsOf]
  | dT m ks xs => cases t <;> cases m <;> simp [itemsOf]
  | _ => cases t <;> simp [itemsOf]
@[simp] theorem SI_seq {e : CE} {Q : LvT → Env → Prop} : (dI Φ (.seq e) ρ).S Q X = (dE Φ e ρ).S (fun x ρ => condK x.t (optK (itemsOf x.d) fun xs => D.pures xs = true ∧ Q ⟨xs, true⟩ ρ) (optK (itemsOf x.d.frz) fun xs => Q ⟨xs, false⟩ ρ)) X := by with_unfolding_all exact RSI_seq
theorem RSI_rng1 {e : CE} {Q : LvT → Env → Prop} : (denI Φ (.rng1 e) ρ).S Q X = (den Φ e ρ).S (fun x ρ => optK (asI x.d) fun j => (-(2 ^ 62) ≤ j ∧ j < 2 ^ 62) ∧ Q ⟨rangeD 0 j.toNat, false⟩ ρ) X := by
  rw [denI]
  simp only [S_bind]
  refine S_ext fun x ρ => ?_; try simp only [S_bind, S_ite, S_itep, S_vOf]
  cases x.d <;> simp [asI, S_itep]
@[simp] theorem SI_rng1 {e : CE} {Q : LvT → Env → Prop} : (dI Φ (.rng1 e) ρ).S Q X = (dE Φ e ρ).S (fun x ρ => optK (asI x.d) fun j => (-(2 ^ 62) ≤ j ∧ j < 2 ^ 62) ∧ Q ⟨rangeD 0 j.toNat, false⟩ ρ) X := by with_unfolding_all exact RSI_rng1
theorem RSI_rng2 {a b : CE} {Q : LvT → Env → Prop} : (denI Φ (.rng2 a b) ρ).S Q X = (den Φ a ρ).S (fun x ρ => (den Φ b ρ).S (fun y ρ => optK (asI x.d) fun i => optK (asI y.d) fun j => (-(2 ^ 62) ≤ i ∧ i < 2 ^ 62 ∧ -(2 ^ 62) ≤ j ∧ j < 2 ^ 62) ∧ Q ⟨rangeD i (j - i).toNat, false⟩ ρ) X) X := by
  rw [denI]
  simp only [S_bind]
  refine S_ext fun x ρ => ?_; try simp only [S_bind, S_ite, S_itep, S_vOf]; refine S_ext fun y ρ => ?_; try simp only [S_bind, S_ite, S_itep, S_vOf]
  cases x.d <;> cases y.d <;> simp [asI, S_itep]
@[simp] theorem SI_rng2 {a b : CE} {Q : LvT → Env → Prop} : (dI Φ (.rng2 a b) ρ).S Q X = (dE Φ a ρ).S (fun x ρ => (dE Φ b ρ).S (fun y ρ => optK (asI x.d) fun i => optK (asI y.d) fun j => (-(2 ^ 62) ≤ i ∧ i < 2 ^ 62 ∧ -(2 ^ 62) ≤ j ∧ j < 2 ^ 62) ∧ Q ⟨rangeD i (j - i).toNat, false⟩ ρ) X) X := by with_unfolding_all exact RSI_rng2
theorem RSI_enum {e : CE} {Q : LvT → Env → Prop} : (denI Φ (.enum e) ρ).S Q X = (den Φ e ρ).S (fun x ρ => gQ x.t false (optK (itemsOf x.d.frz) fun xs => Q ⟨zipIdxD xs, false⟩ ρ)) X := by
  rw [denI]
  simp only [S_bind, S_ite]
  refine S_ext fun x ρ => ?_; try simp only [S_bind, S_ite, S_itep, S_vOf]
  cases x.t <;> cases itemsOf x.d.frz <;> simp [gQ]
@[simp] theorem SI_enum {e : CE} {Q : LvT → Env → Prop} : (dI Φ (.enum e) ρ).S Q X = (dE Φ e ρ).S (fun x ρ => gQ x.t false (optK (itemsOf x.d.frz) fun xs => Q ⟨zipIdxD xs, false⟩ ρ)) X := by with_unfolding_all exact RSI_enum
def keysK (o : Option D) (k : List (List Key) → List D → Prop) (_ : Tg k := .t) : Prop := match o with
  | some (.dT true ks vs) => D.pures vs = true ∧ k ks vs
  | _ => False
@[simp] theorem keysK_dT {ks : List (List Key)} {vs : List D} {k : List (List Key) → List D → Prop} : keysK (some (.dT true ks vs)) k = (D.pures vs = true ∧ k ks vs) := (rfl : _ = _).trans rfl
theorem RSI_keys {i : Nat} {Q : LvT → Env → Prop} : (denI Φ (.keys (.frz i)) ρ).S Q X = keysK (getS ρ i) fun ks vs => Q ⟨ks.map fun k => .raw (k.map keyD), false⟩ (ρ.set i (some (.dT false ks vs))) := by
  rw [denI]
  cases getS ρ i with
  | none => rfl
  | some d =>
    cases d <;> simp [keysK]
    rename_i m ks vs
    cases m <;> simp [S_itep]
@[simp] theorem SI_keys {i : Nat} {Q : LvT → Env → Prop} : (dI Φ (.keys (.frz i)) ρ).S Q X = keysK (getS ρ i) fun ks vs => Q ⟨ks.map fun k => .raw (k.map keyD), false⟩ (ρ.set i (some (.dT false ks vs))) := by with_unfolding_all exact RSI_keys
end
/-! ### statements -/
def kSeq (Φ : Phi) (b : CS) (Q : Fl → Env → Prop) (X : Ex → Env → Prop) (_ : Tg b) (_ : Tg Q) (_ : Tg X) (fl : Fl) (ρ : Env) : Prop := match fl with
  | .next => (dS Φ b ρ).S Q X
  | fl => Q fl ρ
def stepF (Φ : Phi) (tg : List Nat) (body : CS) (x : D) (ρ : Env) (_ : Tg body := .t) : Rx Fl := match bindT tg x ρ with
  | some ρ1 => dS Φ body ρ1
  | none => .stuck
def forX (Φ : Phi) (tg : List Nat) (body : CS) (w : List Nat) (xs : List D) (ρ : Env) (_ : Tg body := .t) : Rx Fl := forL (fun x ρ => stepF Φ tg body x ρ) (wipeS w) xs ρ
def whlX (Φ : Phi) (c : CE) (body : CS) (w : List Nat) (n : Nat) (ρ : Env) (_ : Tg c := .t) (_ : Tg body := .t) : Rx Fl := whlL (fun ρ => boolOf (dE Φ c ρ)) (fun ρ => dS Φ body ρ) (wipeS w) n ρ
section
variable {Φ : Phi} {Q : Fl → Env → Prop} {X : Ex → Env → Prop} {ρ : Env}
@[simp] theorem kSeq_next {b : CS} : kSeq Φ b Q X .t .t .t .next ρ = (dS Φ b ρ).S Q X := (rfl : _ = _).trans rfl
@[simp] theorem kSeq_ret {b : CS} {d : D} : kSeq Φ b Q X .t .t .t (.ret d) ρ = Q (.ret d) ρ := (rfl : _ = _).trans rfl
@[simp] theorem kSeq_brk {b : CS} : kSeq Φ b Q X .t .t .t .brk ρ = Q .brk ρ := (rfl : _ = _).trans rfl
@[simp] theorem kSeq_cont {b : CS} : kSeq Φ b Q X .t .t .t .cont ρ = Q .cont ρ := (rfl : _ = _).trans rfl
theorem RSS_skip : (denS Φ .skip ρ).S Q X = Q .next ρ := by rw [denS]; rfl
@[simp] theorem SS_skip : (dS Φ .skip ρ).S Q X = Q .next ρ := by with_unfolding_all exact RSS_skip
theorem RSS_seq {a b : CS} : (denS Φ (.seq a b) ρ).S Q X = (denS Φ a ρ).S (kSeq Φ b Q X .t .t .t) X := by
  rw [denS]
  cases denS Φ a ρ with
  | ok fl ρ' => cases fl <;> with_unfolding_all rfl
  | exc x e => rfl
  | stuck => rfl
@[simp] theorem SS_seq {a b : CS} : (dS Φ (.seq a b) ρ).S Q X = (dS Φ a ρ).S (kSeq Φ b Q X .t .t .t) X := by with_unfolding_all exact RSS_seq
theorem RSS_asg {i : Nat} {own : Bool} {e : CE} : (denS Φ (.asg i own e) ρ).S Q X = (den Φ e ρ).S (fun x ρ => gQ x.t false (i < ρ.length ∧ Q .next (ρ.set i (some (if own then x.d else x.d.frz))))) X := by
  rw [denS]
  simp only [S_bind, S_ite, S_itep]
  refine S_ext fun x ρ => ?_; try simp only [S_bind, S_ite, S_itep, S_vOf]
  cases x.t <;> simp [gQ]
@[simp] theorem SS_asg {i : Nat} {own : Bool} {e : CE} : (dS Φ (.asg i own e) ρ).S Q X = (dE Φ e ρ).S (fun x ρ => gQ x.t false (i < ρ.length ∧ Q .next (ρ.set i (some (if own then x.d else x.d.frz))))) X := by with_unfolding_all exact RSS_asg
theorem RSS_asgT {is : List Nat} {e : CE} : (denS Φ (.asgT is e) ρ).S Q X = (den Φ e ρ).S (fun x ρ => gQ x.t false (optK (tupItems x.d) fun xs => optK (bindT.go is xs ρ) fun ρ' => is.length = xs.length ∧ Q .next ρ')) X := by
  rw [denS]
  simp only [S_bind, S_ite]
  refine S_ext fun x ρ => ?_; try simp only [S_bind, S_ite, S_itep, S_vOf]
  cases x.t <;> cases tupItems x.d <;> simp [gQ]
  rename_i xs
  cases bindT.go is xs ρ <;> simp [S_itep]
@[simp] theorem SS_asgT {is : List Nat} {e : CE} : (dS Φ (.asgT is e) ρ).S Q X = (dE Φ e ρ).S (fun x ρ => gQ x.t false (optK (tupItems x.d) fun xs => optK (bindT.go is xs ρ) fun ρ' => is.length = xs.length ∧ Q .next ρ')) X := by with_unfolding_all exact RSS_asgT
theorem RSS_setp {own : Bool} {p : CP} {k e : CE} : (denS Φ (.setp own p k e) ρ).S Q X = (den Φ e ρ).S (fun x ρ => gQ x.t false ((p.quiet && k.quiet) = true ∧ (denP Φ p ρ).S (fun ks ρ => (den Φ k ρ).S (fun y ρ => optK ((getS ρ p.root).bind fun d => updAt (fSetIx y.d (if own then x.d else x.d.frz)) ks d) fun r => Q .next (ρ.set p.root (some r.2))) X) X)) X := by
  rw [denS, S_bind]
  refine S_ext fun x ρ => ?_
  rw [S_ite, S_ite, S_bind]
  have e5 : ∀ (a b : Bool) (p p' : Prop), p = p' → (a = false ∧ (!b) = false ∧ p) = gQ a false (b = true ∧ p') := fun a b p p' h => by
    subst h; cases a <;> cases b <;> simp [gQ]
  refine e5 _ _ _ _ (S_ext fun ks ρ => ?_)
  rw [S_bind]
  refine S_ext fun y ρ => ?_
  generalize ((getS ρ p.root).bind fun d => updAt (fSetIx y.d (if own = true then x.d else x.d.frz)) ks d) = r
  cases r <;> rfl
@[simp] theorem SS_setp {own : Bool} {p : CP} {k e : CE} : (dS Φ (.setp own p k e) ρ).S Q X = (dE Φ e ρ).S (fun x ρ => gQ x.t false ((p.quiet && k.quiet) = true ∧ (dP Φ p ρ).S (fun ks ρ => (dE Φ k ρ).S (fun y ρ => optK ((getS ρ p.root).bind fun d => updAt (fSetIx y.d (if own then x.d else x.d.frz)) ks d) fun r => Q .next (ρ.set p.root (some r.2))) X) X)) X := by with_unfolding_all exact RSS_setp
theorem RSS_ex {e : CE} : (denS Φ (.ex e) ρ).S Q X = (den Φ e ρ).S (fun _ ρ => Q .next ρ) X := by rw [denS, S_bind]; rfl
@[simp] theorem SS_ex {e : CE} : (dS Φ (.ex e) ρ).S Q X = (dE Φ e ρ).S (fun _ ρ => Q .next ρ) X := by with_unfolding_all exact RSS_ex
theorem RSS_ret {e : CE} : (denS Φ (.ret e) ρ).S Q X = (den Φ e ρ).S (fun x ρ => gQ x.t false (Q (.ret x.d) ρ)) X := by
  rw [denS]
  simp only [S_bind, S_ite]
  refine S_ext fun x ρ => ?_; try simp only [S_bind, S_ite, S_itep, S_vOf]
  cases x.t <;> simp [gQ]
@[simp] theorem SS_ret {e : CE} : (dS Φ (.ret e) ρ).S Q X = (dE Φ e ρ).S (fun x ρ => gQ x.t false (Q (.ret x.d) ρ)) X := by with_unfolding_all exact RSS_ret
theorem RSS_retN : (denS Φ .retN ρ).S Q X = Q (.ret .non) ρ := by rw [denS]; rfl
@[simp] theorem SS_retN : (dS Φ .retN ρ).S Q X = Q (.ret .non) ρ := by with_unfolding_all exact RSS_retN
theorem RSS_brk : (denS Φ .brk ρ).S Q X = Q .brk ρ := by rw [denS]; rfl
@[simp] theorem SS_brk : (dS Φ .brk ρ).S Q X = Q .brk ρ := by with_unfolding_all exact RSS_brk
theorem RSS_cont : (denS Φ .cont ρ).S Q X = Q .cont ρ := by rw [denS]; rfl
@[simp] theorem SS_cont : (dS Φ .cont ρ).S Q X = Q .cont ρ := by with_unfolding_all exact RSS_cont
theorem S_boolOf {r : Rx Vt} {Q : Bool → Env → Prop} : (boolOf r).S Q X = r.S (fun x ρ => optK (asB x.d) fun b => Q b ρ) X := by
  unfold boolOf
  simp only [S_bind]
  refine S_ext fun x ρ => ?_; try simp only [S_bind, S_ite, S_itep, S_vOf]
  cases x.d <;> rfl
/-- both ways of an if -/
theorem RSS_ifs {c : CE} {a b : CS} : (denS Φ (.ifs c a b) ρ).S Q X = (den Φ c ρ).S (fun x ρ => optK (asB x.d) fun k => condK k ((denS Φ a ρ).S Q X) ((denS Φ b ρ).S Q X)) X := by
  rw [denS, S_bind, S_boolOf]
  refine S_ext fun x ρ => optK_ext fun k => ?_
  cases k <;> simp
theorem SS_ifs {c : CE} {a b : CS} : (dS Φ (.ifs c a b) ρ).S Q X = (dE Φ c ρ).S (fun x ρ => optK (asB x.d) fun k => condK k ((dS Φ a ρ).S Q X) ((dS Φ b ρ).S Q X)) X := by with_unfolding_all exact RSS_ifs
theorem RSS_for {tg : List Nat} {it : CI} {body : CS} {clr : List Nat} : (denS Φ (.for_ tg it body clr) ρ).S Q X = (denI Φ it ρ).S (fun xs ρ => gQ xs.t false ((forX Φ tg body (tg ++ clr) xs.d (wipeS (tg ++ clr) ρ)).S Q X)) X := by
  rw [denS]
  simp only [S_bind, S_ite]
  refine S_ext fun x ρ => ?_; try simp only [S_bind, S_ite, S_itep, S_vOf]
  cases x.t <;> simp [gQ]
  with_unfolding_all rfl
@[simp] theorem SS_for {tg : List Nat} {it : CI} {body : CS} {clr : List Nat} : (dS Φ (.for_ tg it body clr) ρ).S Q X = (dI Φ it ρ).S (fun xs ρ => gQ xs.t false ((forX Φ tg body (tg ++ clr) xs.d (wipeS (tg ++ clr) ρ)).S Q X)) X := by with_unfolding_all exact RSS_for
theorem RSS_whl {m : Env → Nat} {c : CE} {body : CS} {clr : List Nat} : (denS Φ (.whl m c body clr) ρ).S Q X = (whlX Φ c body clr (m ρ) (wipeS clr ρ)).S Q X := by
  rw [denS]; with_unfolding_all rfl
@[simp] theorem SS_whl {m : Env → Nat} {c : CE} {body : CS} {clr : List Nat} : (dS Φ (.whl m c body clr) ρ).S Q X = (whlX Φ c body clr (m ρ) (wipeS clr ρ)).S Q X := by with_unfolding_all exact RSS_whl
@[simp] theorem S_stepF {tg : List Nat} {b : CS} {x : D} : (stepF Φ tg b x ρ).S Q X = optK (bindT tg x ρ) fun ρ => (dS Φ b ρ).S Q X := by
  unfold stepF
  cases bindT tg x ρ <;> rfl
/-- what is asked behind a turn -/
def loopK (I : Env → Prop) (w : List Nat) (Q : Fl → Env → Prop) (_ : Tg I) (_ : Tg w) (_ : Tg Q) (fl : Fl) (ρ : Env) : Prop := match fl with
  | .next => I (wipeS w ρ)
  | .cont => I (wipeS w ρ)
  | .brk => Q .next (wipeS w ρ)
  | .ret d => Q (.ret d) ρ
@[simp] theorem loopK_next {I : Env → Prop} {w : List Nat} : loopK I w Q .t .t .t .next ρ = I (wipeS w ρ) := (rfl : _ = _).trans rfl
@[simp] theorem loopK_cont {I : Env → Prop} {w : List Nat} : loopK I w Q .t .t .t .cont ρ = I (wipeS w ρ) := (rfl : _ = _).trans rfl
@[simp] theorem loopK_brk {I : Env → Prop} {w : List Nat} : loopK I w Q .t .t .t .brk ρ = Q .next (wipeS w ρ) := (rfl : _ = _).trans rfl
@[simp] theorem loopK_ret {I : Env → Prop} {w : List Nat} {d : D} : loopK I w Q .t .t .t (.ret d) ρ = Q (.ret d) ρ := (rfl : _ = _).trans rfl
theorem forX_rest {tg : List Nat} {body : CS} {w : List Nat} (I : List D → Env → Prop) : ∀ (xs : List D) (ρ : Env), I xs ρ → (∀ x r ρ, I (x :: r) ρ → (stepF Φ tg body x ρ).S (loopK (I r) w Q .t .t .t) X) → (∀ ρ, I [] ρ → Q .next ρ) → (forX Φ tg body w xs ρ).S Q X
  | [], ρ, h, hs, he => he ρ h
  | x :: r, ρ, h, hs, he => by
    have q := hs x r ρ h
    unfold forX forL
    cases e : stepF Φ tg body x ρ with
    | stuck => rw [e] at q; exact q
    | exc x e2 => rw [e] at q; exact q
    | ok fl ρ' =>
      rw [e] at q
      cases fl with
      | next => exact forX_rest I r _ q hs he
      | cont => exact forX_rest I r _ q hs he
      | brk => exact q
      | ret d => exact q
/-- over a list told by things of one's own: the invariant of those done -/
theorem forX_done {α : Type} {tg : List Nat} {body : CS} {w : List Nat} (enc : α → D) (l : List α) (I : List α → Env → Prop) (h0 : I [] ρ) (hs : ∀ done a rest ρ, l = done ++ a :: rest → I done ρ → (stepF Φ tg body (enc a) ρ).S (loopK (I (done ++ [a])) w Q .t .t .t) X) (he : ∀ ρ, I l ρ → Q .next ρ) : (forX Φ tg body w (l.map enc) ρ).S Q X := by
  refine forX_rest (fun xs ρ => ∃ done rest, l = done ++ rest ∧ xs = rest.map enc ∧ I done ρ) _ _ ⟨[], l, rfl, rfl, h0⟩ ?_ ?_
  · rintro x r ρ ⟨done, rest, e1, e2, hI⟩
    cases rest with
    | nil => cases e2
    | cons a rest =>
      simp only [List.map_cons, List.cons.injEq] at e2
      obtain ⟨rfl, rfl⟩ := e2
      refine Rx.S_mono (hs done a rest ρ e1 hI) (fun fl ρ' z => ?_) fun _ _ z => z
      cases fl with
      | next => exact ⟨done ++ [a], rest, by simp [e1], rfl, z⟩
      | cont => exact ⟨done ++ [a], rest, by simp [e1], rfl, z⟩
      | brk => exact z
      | ret d => exact z
  · rintro ρ ⟨done, rest, e1, e2, hI⟩
    cases rest with
    | nil => simp only [List.append_nil] at e1; rw [e1] at he; exact he ρ hI
    | cons a rest => cases e2
theorem forX_range {tg : List Nat} {body : CS} {w : List Nat} (lo : Int) (n : Nat) (I : Nat → Env → Prop) (h0 : I 0 ρ) (hs : ∀ i ρ, i < n → I i ρ → (stepF Φ tg body (.int (lo + i)) ρ).S (loopK (I (i + 1)) w Q .t .t .t) X) (he : ∀ ρ, I n ρ → Q .next ρ) : (forX Φ tg body w (rangeD lo n) ρ).S Q X := by
  refine forX_done (fun i : Nat => D.int (lo + i)) (List.range n) (fun done ρ => I done.length ρ) h0 (fun done a rest ρ e hI => ?_) (fun ρ h => he ρ (by simpa using h))
  have hl : a = done.length ∧ done.length < n := by
    have h1 : (List.range n)[done.length]? = some a := by rw [e]; simp
    have h2 : done.length < n := by
      have := congrArg List.length e
      simp at this
      omega
    rw [List.getElem?_range h2] at h1
    exact ⟨by simpa using h1.symm, h2⟩
  obtain ⟨rfl, h2⟩ := hl
  have q := hs done.length ρ h2 hI
  rw [show (done ++ [done.length]).length = done.length + 1 by simp]
  exact q
theorem whlX_inv {c : CE} {body : CS} {w : List Nat} (I : Env → Prop) (μ : Env → Nat) (hs : ∀ ρ, I ρ → (dE Φ c ρ).S (fun x ρ1 => optK (asB x.d) fun b => condK b ((dS Φ body ρ1).S (loopK (fun ρ' => I ρ' ∧ μ ρ' < μ ρ) w Q .t .t .t) X) (Q .next ρ1)) X) : ∀ (n : Nat) (ρ : Env), I ρ → μ ρ < n → (whlX Φ c body w n ρ).S Q X
  | 0, ρ, h, hn => by omega
  | n + 1, ρ, h, hn => by
    have q := hs ρ h
    rw [← S_boolOf (Q := fun b ρ1 => condK b ((dS Φ body ρ1).S (loopK (fun ρ' => I ρ' ∧ μ ρ' < μ ρ) w Q .t .t .t) X) (Q .next ρ1))] at q
    unfold whlX whlL
    cases e : boolOf (dE Φ c ρ) with
    | stuck => rw [e] at q; exact q
    | exc x e2 => rw [e] at q; exact q
    | ok b ρ1 =>
      rw [e] at q
      cases b with
      | false => simpa using q
      | true =>
        simp only [S_ok, condK_true] at q
        revert q
        show _ → Rx.S (match dS Φ body ρ1 with
          | .ok .next ρ' => whlX Φ c body w n (wipeS w ρ')
          | .ok .cont ρ' => whlX Φ c body w n (wipeS w ρ')
          | .ok .brk ρ' => .ok .next (wipeS w ρ')
          | .ok (.ret d) ρ' => .ok (.ret d) ρ'
          | .exc x ρ' => .exc x ρ'
          | .stuck => .stuck) Q X
        cases dS Φ body ρ1 with
        | stuck => exact fun q => q
        | exc x e2 => exact fun q => q
        | ok fl ρ' =>
          cases fl with
          | next => exact fun q => whlX_inv I μ hs n _ q.1 (by have := q.2; omega)
          | cont => exact fun q => whlX_inv I μ hs n _ q.1 (by have := q.2; omega)
          | brk => exact fun q => q
          | ret d => exact fun q => q
end
section
variable {Φ : Phi} {Q : List D → Env → Prop} {X : Ex → Env → Prop} {ρ : Env}
theorem lcX_rest {own : Bool} {elt : CE} {tg : List Nat} {cond : CEs} (I : List D → List D → Env → Prop) : ∀ (xs acc : List D) (ρ : Env), I xs acc ρ →
    (∀ x r acc ρ, I (x :: r) acc ρ → optK (bindT tg x ρ) fun ρ1 => (dC Φ cond ρ1).S (fun b ρ2 => condK b ((eltF Φ own elt ρ2).S (fun y ρ3 => okS tg ρ3 = true ∧ I r (acc ++ [y]) (wipeS tg ρ3)) noX) (okS tg ρ2 = true ∧ I r acc (wipeS tg ρ2))) noX) →
    (∀ acc ρ, I [] acc ρ → Q acc ρ) → (lcX Φ own elt tg cond xs acc ρ).S Q X
  | [], acc, ρ, h, hs, he => he acc ρ h
  | x :: r, acc, ρ, h, hs, he => by
    have q := hs x r acc ρ h
    unfold lcX lcL
    cases e : bindT tg x ρ with
    | none => rw [e] at q; exact q.elim
    | some ρ1 =>
      rw [e] at q
      simp only [optK_some] at q
      cases e2 : dC Φ cond ρ1 with
      | stuck => rw [e2] at q; exact q.elim
      | exc x e2 => rw [e2] at q; exact q.elim
      | ok b ρ2 =>
        rw [e2] at q
        cases b with
        | false =>
          simp only [S_ok, condK_false] at q
          simp only [e2, q.1, if_true]
          exact lcX_rest I r acc _ q.2 hs he
        | true =>
          simp only [S_ok, condK_true] at q
          simp only [e2]
          cases e3 : eltF Φ own elt ρ2 with
          | stuck => rw [e3] at q; exact q.elim
          | exc x e2 => rw [e3] at q; exact q.elim
          | ok y ρ3 =>
            rw [e3] at q
            simp only [S_ok] at q
            simp only [e3, q.1, if_true]
            exact lcX_rest I r _ _ q.2 hs he
/-- turns that change nothing: a filter, a map -/
theorem lcX_pure {α : Type} {own : Bool} {elt : CE} {tg : List Nat} {cond : CEs} (enc : α → D) (c : α → Bool) (g : α → D) (l : List α)
    (hs : ∀ a ∈ l, optK (bindT tg (enc a) ρ) fun ρ1 => (dC Φ cond ρ1).S (fun b ρ2 => b = c a ∧ condK b ((eltF Φ own elt ρ2).S (fun y ρ3 => y = g a ∧ okS tg ρ3 = true ∧ wipeS tg ρ3 = ρ) noX) (okS tg ρ2 = true ∧ wipeS tg ρ2 = ρ)) noX)
    (he : Q ((l.filter c).map g) ρ) : (lcX Φ own elt tg cond (l.map enc) [] ρ).S Q X := by
  refine lcX_rest (fun xs acc ρ' => ρ' = ρ ∧ ∃ done rest, l = done ++ rest ∧ xs = rest.map enc ∧ acc = (done.filter c).map g) _ _ _ ⟨rfl, [], l, rfl, rfl, rfl⟩ ?_ ?_
  · rintro x r acc ρ' ⟨rfl, done, rest, e1, e2, rfl⟩
    cases rest with
    | nil => cases e2
    | cons a rest =>
      simp only [List.map_cons, List.cons.injEq] at e2
      obtain ⟨rfl, rfl⟩ := e2
      have q := hs a (by rw [e1]; simp)
      revert q
      cases bindT tg (enc a) ρ' with
      | none => exact fun q => q
      | some ρ1 =>
        simp only [optK_some]
        intro q
        refine Rx.S_mono q (fun b ρ2 z => ?_) fun _ _ z => z
        obtain ⟨rfl, z⟩ := z
        cases hb : c a with
        | true =>
          rw [hb] at z
          simp only [condK_true] at z ⊢
          refine Rx.S_mono z (fun y ρ3 z => ?_) fun _ _ z => z
          obtain ⟨rfl, z1, z2⟩ := z
          exact ⟨z1, z2, done ++ [a], rest, by simp [e1], rfl, by simp [hb]⟩
        | false =>
          rw [hb] at z
          simp only [condK_false] at z ⊢
          exact ⟨z.1, z.2, done ++ [a], rest, by simp [e1], rfl, by simp [hb]⟩
  · rintro acc ρ' ⟨rfl, done, rest, e1, e2, rfl⟩
    cases rest with
    | nil => simp only [List.append_nil] at e1; rw [e1] at he; exact he
    | cons a rest => cases e2
end
/-! ### defs -/
def retK (io : List Nat) (own : Bool) (Q : D → List D → Prop) (_ : Tg Q) (fl : Fl) (ρ : Env) : Prop := match fl with
  | .ret d => optK (outsOf io ρ) fun outs => Q (if own then d else d.frz) outs
  | .next => optK (outsOf io ρ) fun outs => Q .non outs
  | _ => False
def excK (io : List Nat) (X : Ex → List D → Prop) (_ : Tg X) (x : Ex) (ρ : Env) : Prop := optK (outsOf io ρ) fun outs => X x outs
section
variable {Q : D → List D → Prop} {X : Ex → List D → Prop} {io : List Nat} {own : Bool} {ρ : Env} {d : D} {x : Ex}
@[simp] theorem retK_ret : retK io own Q .t (.ret d) ρ = optK (outsOf io ρ) fun outs => Q (if own then d else d.frz) outs := (rfl : _ = _).trans rfl
@[simp] theorem retK_next : retK io own Q .t .next ρ = optK (outsOf io ρ) fun outs => Q .non outs := (rfl : _ = _).trans rfl
@[simp] theorem retK_brk : retK io own Q .t .brk ρ = False := (rfl : _ = _).trans rfl
@[simp] theorem retK_cont : retK io own Q .t .cont ρ = False := (rfl : _ = _).trans rfl
@[simp] theorem excK_eq : excK io X .t x ρ = optK (outsOf io ρ) fun outs => X x outs := (rfl : _ = _).trans rfl
theorem S_run {Φ : Phi} {c : CF} {args : List D} : (runF Φ c args).S Q X = (args.length = c.params ∧ (dS Φ c.body (c.start args)).S (retK c.io c.own Q .t) (excK c.io X .t)) := by
  unfold runF
  split
  · rename_i h
    simp only [h, true_and]
    have e : dS Φ c.body (c.start args) = denS Φ c.body (c.start args) := by unfold dS; rfl
    rw [e]
    cases denS Φ c.body (c.start args) with
    | stuck => simp
    | exc x e => simp only [S_exc, excK]; cases outsOf c.io e <;> simp
    | ok fl e => cases fl <;> simp only [S_ok, retK] <;> (try simp) <;> cases outsOf c.io e <;> simp
  · rename_i h
    simp [h]
@[irreducible] def rF (Φ : Phi) (c : CF) (args : List D) : Cr := runF Φ c args
theorem S_def {Φ : Phi} {c : CF} {args : List D} (h : args.length = c.params) (h2 : (dS Φ c.body (c.start args)).S (retK c.io c.own Q .t) (excK c.io X .t)) : (rF Φ c args).S Q X := by
  unfold rF; rw [S_run]; exact ⟨h, h2⟩
theorem phi_run {prog : List CF} {n f : Nat} {c : CF} (h : prog[f]? = some c) : phi prog (n + 1) f = rF (phi prog n) c := by
  funext args
  simp only [phi, h, rF]
end
end Mini
set_option linter.all false
set_option maxRecDepth 100000
/-! P2: what the operations give on data of known make. -/
namespace Mini
open PySem L2
/-! quiet -/
@[simp] theorem q_var {i : Nat} : CE.quiet (.var i) = true := rfl
@[simp] theorem q_mv {i : Nat} : CE.quiet (.mv i) = false := rfl
@[simp] theorem q_frz {i : Nat} : CE.quiet (.frz i) = false := rfl
@[simp] theorem q_cst {i : D} : CE.quiet (.cst i) = true := rfl
@[simp] theorem q_glb {x : Str} {i : D} : CE.quiet (.glb x i) = true := rfl
@[simp] theorem q_bin {op : Operator} {a b : CE} : CE.quiet (.bin op a b) = (a.quiet && b.quiet) := by rw [CE.quiet]
@[simp] theorem q_neg {a : CE} : CE.quiet (.neg a) = a.quiet := by rw [CE.quiet]
@[simp] theorem q_not {a : CE} : CE.quiet (.not a) = a.quiet := by rw [CE.quiet]
@[simp] theorem q_cmp {op : CmpOp} {a b : CE} : CE.quiet (.cmp op a b) = (a.quiet && b.quiet) := by rw [CE.quiet]
@[simp] theorem q_chn {op op2 : CmpOp} {a b c : CE} : CE.quiet (.chn op op2 a b c) = (a.quiet && b.quiet && c.quiet) := by rw [CE.quiet]
@[simp] theorem q_bop {b : Bool} {es : CEs} : CE.quiet (.bop b es) = es.quiet := by rw [CE.quiet]
@[simp] theorem q_ifx {a b c : CE} : CE.quiet (.ifx c a b) = (c.quiet && a.quiet && b.quiet) := by rw [CE.quiet]
@[simp] theorem q_tup {es : CEs} : CE.quiet (.tup es) = es.quiet := by rw [CE.quiet]
@[simp] theorem q_rtup {es : CEs} : CE.quiet (.rtup es) = es.quiet := by rw [CE.quiet]
@[simp] theorem q_lst {b : Bool} {es : CEs} : CE.quiet (.lst b es) = es.quiet := by rw [CE.quiet]
@[simp] theorem q_dnew {b : Bool} : CE.quiet (.dnew b) = true := rfl
@[simp] theorem q_done {a b : CE} : CE.quiet (.done a b) = (a.quiet && b.quiet) := by rw [CE.quiet]
@[simp] theorem q_ix {a b : CE} : CE.quiet (.ix a b) = (a.quiet && b.quiet) := by rw [CE.quiet]
@[simp] theorem q_slc {a : CE} {l h : CO} : CE.quiet (.slc a l h) = (a.quiet && l.quiet && h.quiet) := by rw [CE.quiet]
@[simp] theorem q_rev {a : CE} : CE.quiet (.rev a) = a.quiet := by rw [CE.quiet]
@[simp] theorem q_call {f : Nat} {as : CA} : CE.quiet (.call f as) = as.quiet := by rw [CE.quiet]
@[simp] theorem q_b1 {b : B1} {a : CE} : CE.quiet (.b1 b a) = a.quiet := by rw [CE.quiet]
@[simp] theorem q_rng {b : Bool} {a : CE} : CE.quiet (.rng b a) = a.quiet := by rw [CE.quiet]
@[simp] theorem q_b2 {b : B2} {a c : CE} : CE.quiet (.b2 b a c) = (a.quiet && c.quiet) := by rw [CE.quiet]
@[simp] theorem q_isi {a : CE} {t : Ty} : CE.quiet (.isi a t) = a.quiet := by rw [CE.quiet]
@[simp] theorem q_cnt {a c : CE} : CE.quiet (.cnt a c) = (a.quiet && c.quiet) := by rw [CE.quiet]
@[simp] theorem q_mth {p : CP} {m : Mt} {es : CEs} : CE.quiet (.mth p m es) = false := rfl
@[simp] theorem q_lc {own : Bool} {elt : CE} {tg : List Nat} {it : CI} {cond : CEs} : CE.quiet (.lc own elt tg it cond) = (elt.quiet && it.quiet && cond.quiet) := by rw [CE.quiet]
@[simp] theorem qs_nil : CEs.quiet .nil = true := rfl
@[simp] theorem qs_cons {e : CE} {es : CEs} : CEs.quiet (.cons e es) = (e.quiet && es.quiet) := by rw [CEs.quiet]
@[simp] theorem qo_no : CO.quiet .no = true := rfl
@[simp] theorem qo_yes {e : CE} : CO.quiet (.yes e) = e.quiet := by rw [CO.quiet]
@[simp] theorem qa_nil : CA.quiet .nil = true := rfl
@[simp] theorem qa_val {e : CE} {as : CA} : CA.quiet (.val e as) = (e.quiet && as.quiet) := by rw [CA.quiet]
@[simp] theorem qa_io {i : Nat} {as : CA} : CA.quiet (.io i as) = false := by rw [CA.quiet]
@[simp] theorem qa_bor {i : Nat} {as : CA} : CA.quiet (.bor i as) = as.quiet := by rw [CA.quiet]
@[simp] theorem qp_var {i : Nat} : CP.quiet (.var i) = true := rfl
@[simp] theorem qp_ix {p : CP} {e : CE} : CP.quiet (.ix p e) = (p.quiet && e.quiet) := by rw [CP.quiet]
@[simp] theorem qi_seq {e : CE} : CI.quiet (.seq e) = e.quiet := by rw [CI.quiet]
@[simp] theorem qi_rng1 {e : CE} : CI.quiet (.rng1 e) = e.quiet := by rw [CI.quiet]
@[simp] theorem qi_rng2 {e f : CE} : CI.quiet (.rng2 e f) = (e.quiet && f.quiet) := by rw [CI.quiet]
@[simp] theorem qi_enum {e : CE} : CI.quiet (.enum e) = e.quiet := by rw [CI.quiet]
@[simp] theorem qi_keys {e : CE} : CI.quiet (.keys e) = e.quiet := by rw [CI.quiet]
/-! options -/
@[simp] theorem optK_ite {α : Type} {c : Prop} [Decidable c] {a : α} {k : α → Prop} : optK (if c then some a else none) k = (c ∧ k a) := by split <;> simp [*]
@[simp] theorem optK_iteo {α : Type} {c : Prop} [Decidable c] {o : Option α} {k : α → Prop} : optK (if c then o else none) k = (c ∧ optK o k) := by split <;> simp [*]
@[simp] theorem obind_ite {α β : Type} {c : Prop} [Decidable c] {a : α} {f : α → Option β} : (if c then some a else none : Option α).bind f = if c then f a else none := by split <;> rfl
@[simp] theorem omap_ite {α β : Type} {c : Prop} [Decidable c] {a : α} {f : α → β} : (if c then some a else none : Option α).map f = if c then some (f a) else none := by split <;> rfl
theorem optK_map {α β : Type} {o : Option α} {f : α → β} {k : β → Prop} : optK (o.map f) k = optK o fun a => k (f a) := by cases o <;> rfl
@[simp] theorem ixK_t {x d : D} {k : Vt → Prop} : ixK ⟨x, true⟩ (some d) k = k ⟨d, !d.pure⟩ := by simp [ixK]
@[simp] theorem ixK_f {x d : D} {k : Vt → Prop} : ixK ⟨x, false⟩ (some d) k = (d.pure = true ∧ k ⟨d, false⟩) := by
  cases h : d.pure <;> simp [ixK, h]
/-! items -/
theorem atI_none {α : Type} {xs : List α} {i : Int} (h : ixN xs.length i = none) : atI xs i = none := by simp [atI, h]
theorem ixN_nat {n k : Nat} : ixN n (k : Int) = if k < n then some k else none := by
  unfold ixN
  simp only [Int.natCast_nonneg, if_true]
  by_cases h : k < n
  · rw [if_pos (by omega), if_pos h]; simp
  · rw [if_neg (by omega), if_neg h]
theorem atI_nat {α : Type} {xs : List α} {k : Nat} : atI xs (k : Int) = xs[k]? := by
  unfold atI
  rw [ixN_nat]
  split
  · rfl
  · rename_i h; simp at h; simp [h]
theorem atI_of {α : Type} {xs : List α} {i : Int} (h : 0 ≤ i) : atI xs i = xs[i.toNat]? := by
  have := atI_nat (xs := xs) (k := i.toNat)
  rwa [Int.toNat_of_nonneg h] at this
theorem ixN_of {n : Nat} {i : Int} (h : 0 ≤ i) (h2 : i < n) : ixN n i = some i.toNat := by simp [ixN, h, h2]
@[simp] theorem atI_zero {α : Type} {xs : List α} : atI xs 0 = xs[0]? := atI_nat (k := 0)
@[simp] theorem atI_one {α : Type} {xs : List α} : atI xs 1 = xs[1]? := atI_nat (k := 1)
@[simp] theorem atI_lit {α : Type} {xs : List α} {n : Nat} : atI xs (no_index (OfNat.ofNat n : Int)) = xs[(OfNat.ofNat n : Nat)]? := atI_nat (k := n)
@[simp] theorem ixN_zero {m : Nat} : ixN m 0 = if 0 < m then some 0 else none := ixN_nat (k := 0)
@[simp] theorem ixN_one {m : Nat} : ixN m 1 = if 1 < m then some 1 else none := ixN_nat (k := 1)
@[simp] theorem ixN_lit {m n : Nat} : ixN m (no_index (OfNat.ofNat n : Int)) = if (OfNat.ofNat n : Nat) < m then some (OfNat.ofNat n : Nat) else none := ixN_nat (k := n)
@[simp] theorem atI_map {α β : Type} {f : α → β} {xs : List α} {i : Int} : atI (xs.map f) i = (atI xs i).map f := by
  unfold atI
  rw [List.length_map]
  cases ixN xs.length i <;> simp
theorem atI_some {α : Type} {xs : List α} {i : Int} (h : 0 ≤ i) (h2 : i < xs.length) : atI xs i = some (xs[i.toNat]'(by omega)) := by
  rw [atI_of h, List.getElem?_eq_getElem]
@[simp] theorem atI_last {α : Type} {xs : List α} : atI xs (-1) = xs.getLast? := by
  unfold atI ixN
  rw [if_neg (by decide), List.getLast?_eq_getElem?]
  by_cases h : xs.length = 0
  · have : xs = [] := List.length_eq_zero_iff.mp h
    subst this; rfl
  · rw [if_pos (by omega)]
    show xs[(-1 + (xs.length : Int)).toNat]? = _
    rw [show (-1 + (xs.length : Int)).toNat = xs.length - 1 by omega]
@[simp] theorem ixD_tup {xs : List D} {i : Int} : ixD (.tup xs) (.int i) = atI xs i := rfl
@[simp] theorem ixD_lst {m : Bool} {xs : List D} {i : Int} : ixD (.lst m xs) (.int i) = atI xs i := rfl
@[simp] theorem ixD_dK {m : Bool} {ks : List Key} {vs : List D} {i : Int} : ixD (.dK m ks vs) (.int i) = lookK ks vs (.inl i) := rfl
@[simp] theorem ixD_dKs {m : Bool} {ks : List Key} {vs : List D} {i : Str} : ixD (.dK m ks vs) (.str i) = lookK ks vs (.inr i) := rfl
/-! numbers -/
@[simp] theorem bin_add {i j : Int} : binD .Add (.int i) (.int j) = some (.int (i + j)) := rfl
@[simp] theorem bin_sub {i j : Int} : binD .Sub (.int i) (.int j) = some (.int (i - j)) := rfl
@[simp] theorem bin_addb {b : Bool} {j : Int} : binD .Add (.bl b) (.int j) = some (.int (b2i b + j)) := rfl
@[simp] theorem bin_subb {b : Bool} {j : Int} : binD .Sub (.bl b) (.int j) = some (.int (b2i b - j)) := rfl
@[simp] theorem bin_mul {i j : Int} : binD .Mult (.int i) (.int j) = if mulOk i j then some (.int (i * j)) else none := rfl
@[simp] theorem bin_div {i j : Int} : binD .FloorDiv (.int i) (.int j) = if 0 < j ∧ j < 1073741824 then some (.int (i / j)) else none := rfl
@[simp] theorem bin_mod {i j : Int} : binD .Mod (.int i) (.int j) = if 0 < j then some (.int (i % j)) else none := rfl
@[simp] theorem bin_pow {i j : Int} : binD .Pow (.int i) (.int j) = if 0 ≤ j ∧ j ≤ 1000000 ∧ i.natAbs < 2 ^ 64 then some (.int (i ^ j.toNat)) else none := rfl
@[simp] theorem bin_addl {m m' : Bool} {xs ys : List D} : binD .Add (.lst m xs) (.lst m' ys) = if xs.length + ys.length ≤ sizeLine ∧ D.pures xs ∧ D.pures ys then some (.lst true (xs ++ ys)) else none := rfl
@[simp] theorem bin_addt {xs ys : List D} : binD .Add (.tup xs) (.tup ys) = if xs.length + ys.length ≤ sizeLine then some (.tup (xs ++ ys)) else none := rfl
@[simp] theorem bin_mull {m : Bool} {xs : List D} {k : Int} : binD .Mult (.lst m xs) (.int k) = if -(2 ^ 63) ≤ k ∧ k < 2 ^ 63 ∧ xs.length * k.toNat ≤ sizeLine ∧ D.pures xs then some (.lst true (List.replicate k.toNat xs).flatten) else none := rfl
theorem sizeLine_eq : sizeLine = 16777216 := rfl
@[simp] theorem mulOk_iff {i j : Int} : (mulOk i j = true) = ((-18446744073709551616 < i ∧ i < 18446744073709551616) ∨ (-18446744073709551616 < j ∧ j < 18446744073709551616)) := by simp [mulOk]
@[simp] theorem b2i_true : b2i true = 1 := rfl
@[simp] theorem b2i_false : b2i false = 0 := rfl
/-! comparisons -/
@[simp] theorem cmp_lt {i j : Int} : cmpD .Lt (.int i) (.int j) = some (decide (i < j)) := rfl
@[simp] theorem cmp_le {i j : Int} : cmpD .LtE (.int i) (.int j) = some (decide (i ≤ j)) := rfl
@[simp] theorem cmp_gt {i j : Int} : cmpD .Gt (.int i) (.int j) = some (decide (j < i)) := rfl
@[simp] theorem cmp_ge {i j : Int} : cmpD .GtE (.int i) (.int j) = some (decide (j ≤ i)) := rfl
@[simp] theorem cmp_eq {d e : D} : cmpD .Eq d e = eqD d e := by cases d <;> cases e <;> rfl
@[simp] theorem cmp_ne {d e : D} : cmpD .NotEq d e = (eqD d e).map not := by cases d <;> cases e <;> rfl
theorem shaped_int {i : Int} : shp (.int i) = true := by simp [shp, PyData.plain, PyData.depth]
theorem shaped_bool {i : Bool} : shp (.bool i) = true := by simp [shp, PyData.plain, PyData.depth]
@[simp] theorem eqD_int {i j : Int} : eqD (.int i) (.int j) = some (decide (i = j)) := by
  simp only [eqD, D.py, shaped_int, Bool.and_self, if_true, PyData.eqv]
  congr 1
@[simp] theorem eqD_bl {i j : Bool} : eqD (.bl i) (.bl j) = some (i == j) := by
  simp only [eqD, D.py, shaped_bool, Bool.and_self, if_true, PyData.eqv]
theorem eqvAll_nil (xs : List D) : PyData.eqvAll (D.pys xs) [] = xs.isEmpty := by cases xs <;> rfl
@[simp] theorem eqD_lnil {m m' : Bool} {xs : List D} : eqD (.lst m xs) (.lst m' []) = some xs.isEmpty := by
  unfold eqD
  split
  · show some (PyData.eqv (.list (D.pys xs)) (.list [])) = _
    rw [PyData.eqv, eqvAll_nil]
  · rfl
@[simp] theorem eqD_tnil {xs : List D} : eqD (.tup xs) (.tup []) = some xs.isEmpty := by
  unfold eqD
  split
  · show some (PyData.eqv (.tuple (D.pys xs)) (.tuple [])) = _
    rw [PyData.eqv, eqvAll_nil]
  · rfl
theorem pys_map {xs : List D} : D.pys xs = xs.map D.py := by
  induction xs with
  | nil => rfl
  | cons x xs ih => simp [D.pys, ih]
theorem intsOf_eq : ∀ {xs : List D} {ns : List Int}, intsOf xs = some ns → xs = ns.map D.int
  | [], ns, h => by simp at h; subst h; rfl
  | x :: xs, ns, h => by
    cases x with
    | int i =>
      simp at h
      obtain ⟨r, h1, rfl⟩ := h
      rw [intsOf_eq h1]; rfl
    | _ => cases h
theorem canLay_ints : ∀ ns : List Int, PyData.plainAll (D.pys (ns.map D.int)) = true
  | [] => rfl
  | n :: ns => by simp [D.pys, D.py, PyData.plainAll, PyData.plain, canLay_ints ns]
theorem depth_ints : ∀ ns : List Int, PyData.depthAll (D.pys (ns.map D.int)) = 0
  | [] => rfl
  | n :: ns => by simp [D.pys, D.py, PyData.depthAll, PyData.depth, depth_ints ns]
theorem shaped_lints {ns : List Int} : shp (.list (D.pys (ns.map D.int))) = true := by simp [shp, PyData.plain, PyData.depth, canLay_ints, depth_ints]
theorem shaped_tints {ns : List Int} : shp (.tuple (D.pys (ns.map D.int))) = true := by simp [shp, PyData.plain, PyData.depth, canLay_ints, depth_ints]
theorem eqvAll_ints : ∀ ns ms : List Int, PyData.eqvAll (D.pys (ns.map D.int)) (D.pys (ms.map D.int)) = decide (ns = ms)
  | [], [] => rfl
  | [], _ :: _ => by simp [D.pys, PyData.eqvAll]
  | _ :: _, [] => by simp [D.pys, PyData.eqvAll]
  | n :: ns, m :: ms => by
    simp [D.pys, D.py, PyData.eqvAll, PyData.eqv, eqvAll_ints ns ms]
    rfl
@[simp] theorem eqD_lints {m m' : Bool} {ns ms : List Int} : eqD (.lst m (ns.map D.int)) (.lst m' (ms.map D.int)) = some (decide (ns = ms)) := by
  simp only [eqD, D.py, shaped_lints, Bool.and_self, if_true, PyData.eqv, eqvAll_ints]
@[simp] theorem eqD_tints {ns ms : List Int} : eqD (.tup (ns.map D.int)) (.tup (ms.map D.int)) = some (decide (ns = ms)) := by
  simp only [eqD, D.py, shaped_tints, Bool.and_self, if_true, PyData.eqv, eqvAll_ints]
theorem inD_ints {i : Int} {ns : List Int} : inD (.int i) (ns.map D.int) = some (decide (i ∈ ns)) := by
  simp only [inD, D.py, shaped_lints, shaped_int, Bool.and_self, if_true]
  congr 1
  induction ns with
  | nil => rfl
  | cons n ns ih =>
    simp only [List.map_cons, List.any_cons, ih, D.py, PyData.eqv]
    by_cases h : n = i
    · subst h; simp
    · simp [h, Ne.symm h]
theorem inD_of {i : Int} {xs : List D} {ns : List Int} (h : intsOf xs = some ns) : inD (.int i) xs = some (decide (i ∈ ns)) := by rw [intsOf_eq h, inD_ints]
@[simp] theorem inD_intsl {i : Int} {ns : List Int} : inD (.int i) (ns.map D.int) = some (decide (i ∈ ns)) := inD_ints
@[simp] theorem inD_intsf {α : Type} {i : Int} {l : List α} {h : α → Int} : inD (.int i) (l.map fun a => D.int (h a)) = some (decide (i ∈ l.map h)) := by
  rw [show (l.map fun a => D.int (h a)) = (l.map h).map D.int by simp]; exact inD_ints
@[simp] theorem inD_two {i a b : Int} : inD (.int i) [.int a, .int b] = some (decide (i = a) || decide (i = b)) := by
  rw [inD_of (ns := [a, b]) rfl]; simp
@[simp] theorem cmp_inL {d : D} {m : Bool} {xs : List D} : cmpD .In d (.lst m xs) = inD d xs := by cases d <;> rfl
@[simp] theorem cmp_inT {d : D} {xs : List D} : cmpD .In d (.tup xs) = inD d xs := by cases d <;> rfl
@[simp] theorem cmp_ninL {d : D} {m : Bool} {xs : List D} : cmpD .NotIn d (.lst m xs) = (inD d xs).map not := by cases d <;> rfl
@[simp] theorem cmp_ninT {d : D} {xs : List D} : cmpD .NotIn d (.tup xs) = (inD d xs).map not := by cases d <;> rfl
@[simp] theorem cmp_inK {i : Int} {m : Bool} {ks : List Key} {vs : List D} : cmpD .In (.int i) (.dK m ks vs) = some (hasK ks (.inl i)) := by cases m <;> rfl
@[simp] theorem cmp_ninK {i : Int} {m : Bool} {ks : List Key} {vs : List D} : cmpD .NotIn (.int i) (.dK m ks vs) = some (!hasK ks (.inl i)) := by cases m <;> rfl
@[simp] theorem cmp_is {b c : Bool} : cmpD .Is (.bl b) (.bl c) = some (b == c) := rfl
@[simp] theorem cmp_isnt {b c : Bool} : cmpD .IsNot (.bl b) (.bl c) = some (b != c) := rfl
@[simp] theorem cmp_isN {d : D} : cmpD .Is d .non = some (isNon d) := by cases d <;> rfl
@[simp] theorem cmp_isntN {d : D} : cmpD .IsNot d .non = some (!isNon d) := by cases d <;> rfl
@[simp] theorem isNon_non : isNon .non = true := rfl
@[simp] theorem isNon_bl {b : Bool} : isNon (.bl b) = false := rfl
@[simp] theorem isNon_int {b : Int} : isNon (.int b) = false := rfl
@[simp] theorem isNon_tup {b : List D} : isNon (.tup b) = false := rfl
/-! built-ins -/
@[simp] theorem b1_lenL {m : Bool} {xs : List D} : b1D .len (.lst m xs) = some (.int xs.length) := by cases m <;> rfl
@[simp] theorem b1_lenT {xs : List D} : b1D .len (.tup xs) = some (.int xs.length) := rfl
@[simp] theorem b1_tupleT {xs : List D} : b1D .tuple (.tup xs) = some (.tup xs) := rfl
@[simp] theorem b1_tupleL {m : Bool} {xs : List D} : b1D .tuple (.lst m xs) = if D.pures xs then some (.tup xs) else none := by cases m <;> rfl
@[simp] theorem b1_rtupleL {m : Bool} {xs : List D} : b1D .rtuple (.lst m xs) = if D.pures xs then some (.raw xs) else none := by cases m <;> rfl
@[simp] theorem b1_listT {xs : List D} : b1D .list (.tup xs) = some (.lst true xs) := rfl
@[simp] theorem b1_listL {m : Bool} {xs : List D} : b1D .list (.lst m xs) = if D.pures xs then some (.lst true xs) else none := by cases m <;> rfl
@[simp] theorem b1_sum {m : Bool} {ns : List Int} : b1D .sum (.lst m (ns.map D.int)) = some (.int ns.sum) := by cases m <;> simp [b1D]
@[simp] theorem b1_all {m : Bool} {ns : List Bool} : b1D .all (.lst m (ns.map D.bl)) = some (.bl (ns.all id)) := by cases m <;> simp [b1D]
@[simp] theorem b1_any {m : Bool} {ns : List Bool} : b1D .any (.lst m (ns.map D.bl)) = some (.bl (ns.any id)) := by cases m <;> simp [b1D]
@[simp] theorem b1_int {i : Int} : b1D .int (.int i) = some (.int i) := rfl
@[simp] theorem b1_intb {i : Bool} : b1D .int (.bl i) = some (.int (b2i i)) := rfl
@[simp] theorem b1_abs {i : Int} : b1D .abs (.int i) = some (.int (if i < 0 then -i else i)) := rfl
@[simp] theorem b2_max {i j : Int} : b2D .max (.int i) (.int j) = some (.int (if j > i then j else i)) := rfl
@[simp] theorem b2_min {i j : Int} : b2D .min (.int i) (.int j) = some (.int (if j < i then j else i)) := rfl
@[simp] theorem slc_tup {xs : List D} {l h : Option Int} : slcD (.tup xs) l h = some (.tup (cutD xs l h)) := rfl
@[simp] theorem slc_lst {m : Bool} {xs : List D} {l h : Option Int} : slcD (.lst m xs) l h = if D.pures xs then some (.lst true (cutD xs l h)) else none := by cases m <;> rfl
@[simp] theorem slc_scr {ns : List Int} {l h : Option Int} : slcD (.scr ns) l h = some (.lst true ((cutD ns l h).map D.int)) := rfl
@[simp] theorem rev_tup {xs : List D} : revD (.tup xs) = some (.tup xs.reverse) := rfl
@[simp] theorem rev_lst {m : Bool} {xs : List D} : revD (.lst m xs) = if D.pures xs then some (.lst true xs.reverse) else none := by cases m <;> rfl
@[simp] theorem cutD_map {α β : Type} {f : α → β} {xs : List α} {l h : Option Int} : cutD (xs.map f) l h = (cutD xs l h).map f := by
  simp [cutD, List.map_drop, List.map_take]
@[simp] theorem cutD_full {α : Type} {xs : List α} : cutD xs none none = xs := by simp [cutD, HT.sIx_none]
theorem cutD_to {α : Type} {xs : List α} {k : Nat} : cutD xs none (some (k : Int)) = xs.take k := by
  simp [cutD, HT.sIx_none, HT.sIx_nat, List.take_eq_take_iff]
theorem cutD_from {α : Type} {xs : List α} {k : Nat} : cutD xs (some (k : Int)) none = xs.drop k := by
  simp only [cutD, HT.sIx_none, HT.sIx_nat]
  by_cases h : k ≤ xs.length
  · rw [Nat.min_eq_left h]
    exact List.take_of_length_le (by simp)
  · rw [Nat.min_eq_right (by omega), List.drop_of_length_le (Nat.le_refl _), List.drop_of_length_le (by omega)]
    simp
@[simp] theorem cutD_lit {α : Type} {xs : List α} {n : Nat} : cutD xs none (some (no_index (OfNat.ofNat n : Int))) = xs.take (OfNat.ofNat n : Nat) := cutD_to (k := n)
@[simp] theorem cutD_one {α : Type} {xs : List α} : cutD xs none (some 1) = xs.take 1 := cutD_to (k := 1)
@[simp] theorem cutDf_lit {α : Type} {xs : List α} {n : Nat} : cutD xs (some (no_index (OfNat.ofNat n : Int))) none = xs.drop (OfNat.ofNat n : Nat) := cutD_from (k := n)
@[simp] theorem cutDf_one {α : Type} {xs : List α} : cutD xs (some 1) none = xs.drop 1 := cutD_from (k := 1)
theorem cutD_last {α : Type} {xs : List α} : cutD xs none (some (-1)) = xs.dropLast := by
  rw [List.dropLast_eq_take]
  simp only [cutD, HT.sIx_none, HT.sIx, List.drop_zero]
  rw [if_pos (by decide)]
  congr 1
  omega
@[simp] theorem pures_intl {l : List (Int)} : D.pures (l.map (D.int)) = true := by simp only [D.pures, List.all_map]; exact List.all_eq_true.mpr fun _ _ => rfl
@[simp] theorem pures_intf {α : Type} {l : List α} {h : α → Int} : D.pures (l.map fun a => D.int (h a)) = true := by simp only [D.pures, List.all_map]; exact List.all_eq_true.mpr fun _ _ => rfl
@[simp] theorem frzs_intl {l : List (Int)} : D.frzs (l.map (D.int)) = l.map (D.int) := frzs_pures (pures_iff.mp pures_intl)
@[simp] theorem frzs_intf {α : Type} {l : List α} {h : α → Int} : D.frzs (l.map fun a => D.int (h a)) = l.map fun a => D.int (h a) := frzs_pures (pures_iff.mp pures_intf)
@[simp] theorem pures_bll {l : List (Bool)} : D.pures (l.map (D.bl)) = true := by simp only [D.pures, List.all_map]; exact List.all_eq_true.mpr fun _ _ => rfl
@[simp] theorem pures_blf {α : Type} {l : List α} {h : α → Bool} : D.pures (l.map fun a => D.bl (h a)) = true := by simp only [D.pures, List.all_map]; exact List.all_eq_true.mpr fun _ _ => rfl
@[simp] theorem frzs_bll {l : List (Bool)} : D.frzs (l.map (D.bl)) = l.map (D.bl) := frzs_pures (pures_iff.mp pures_bll)
@[simp] theorem frzs_blf {α : Type} {l : List α} {h : α → Bool} : D.frzs (l.map fun a => D.bl (h a)) = l.map fun a => D.bl (h a) := frzs_pures (pures_iff.mp pures_blf)
@[simp] theorem pures_tupl {l : List (List D)} : D.pures (l.map (D.tup)) = true := by simp only [D.pures, List.all_map]; exact List.all_eq_true.mpr fun _ _ => rfl
@[simp] theorem pures_tupf {α : Type} {l : List α} {h : α → List D} : D.pures (l.map fun a => D.tup (h a)) = true := by simp only [D.pures, List.all_map]; exact List.all_eq_true.mpr fun _ _ => rfl
@[simp] theorem frzs_tupl {l : List (List D)} : D.frzs (l.map (D.tup)) = l.map (D.tup) := frzs_pures (pures_iff.mp pures_tupl)
@[simp] theorem frzs_tupf {α : Type} {l : List α} {h : α → List D} : D.frzs (l.map fun a => D.tup (h a)) = l.map fun a => D.tup (h a) := frzs_pures (pures_iff.mp pures_tupf)
@[simp] theorem pures_rawl {l : List (List D)} : D.pures (l.map (D.raw)) = true := by simp only [D.pures, List.all_map]; exact List.all_eq_true.mpr fun _ _ => rfl
@[simp] theorem pures_rawf {α : Type} {l : List α} {h : α → List D} : D.pures (l.map fun a => D.raw (h a)) = true := by simp only [D.pures, List.all_map]; exact List.all_eq_true.mpr fun _ _ => rfl
@[simp] theorem frzs_rawl {l : List (List D)} : D.frzs (l.map (D.raw)) = l.map (D.raw) := frzs_pures (pures_iff.mp pures_rawl)
@[simp] theorem frzs_rawf {α : Type} {l : List α} {h : α → List D} : D.frzs (l.map fun a => D.raw (h a)) = l.map fun a => D.raw (h a) := frzs_pures (pures_iff.mp pures_rawf)
@[simp] theorem pures_lstl {l : List (List D)} : D.pures (l.map (D.lst false)) = true := by simp only [D.pures, List.all_map]; exact List.all_eq_true.mpr fun _ _ => rfl
@[simp] theorem pures_lstf {α : Type} {l : List α} {h : α → List D} : D.pures (l.map fun a => D.lst false (h a)) = true := by simp only [D.pures, List.all_map]; exact List.all_eq_true.mpr fun _ _ => rfl
@[simp] theorem frzs_lstl {l : List (List D)} : D.frzs (l.map (D.lst false)) = l.map (D.lst false) := frzs_pures (pures_iff.mp pures_lstl)
@[simp] theorem frzs_lstf {α : Type} {l : List α} {h : α → List D} : D.frzs (l.map fun a => D.lst false (h a)) = l.map fun a => D.lst false (h a) := frzs_pures (pures_iff.mp pures_lstf)
@[simp] theorem frzs_take {xs : List D} {n : Nat} : D.frzs (xs.take n) = (D.frzs xs).take n := by simp [frzs_map]
@[simp] theorem frzs_drop {xs : List D} {n : Nat} : D.frzs (xs.drop n) = (D.frzs xs).drop n := by simp [frzs_map]
@[simp] theorem frzs_reverse {xs : List D} : D.frzs xs.reverse = (D.frzs xs).reverse := by simp [frzs_map]
@[simp] theorem frzs_length {xs : List D} : (D.frzs xs).length = xs.length := by simp [frzs_map]
@[simp] theorem pures_take {xs : List D} {n : Nat} (h : D.pures xs = true) : D.pures (xs.take n) = true := by
  rw [pures_iff] at h ⊢; exact fun x hx => h x (List.mem_of_mem_take hx)
@[simp] theorem pures_drop {xs : List D} {n : Nat} (h : D.pures xs = true) : D.pures (xs.drop n) = true := by
  rw [pures_iff] at h ⊢; exact fun x hx => h x (List.mem_of_mem_drop hx)
@[simp] theorem pures_cutD {xs : List D} {l r : Option Int} (h : D.pures xs = true) : D.pures (cutD xs l r) = true := pures_take (pures_drop h)
@[simp] theorem pures_reverse {xs : List D} : D.pures xs.reverse = D.pures xs := by simp [D.pures]
@[simp] theorem frzs_of_pures {xs : List D} (h : D.pures xs = true) : D.frzs xs = xs := frzs_pures (pures_iff.mp h)
/-! changes -/
@[simp] theorem updAt_nil {α : Type} {f : D → Option (α × D)} {d : D} : updAt f [] d = f d := rfl
@[simp] theorem updAt_cons {α : Type} {f : D → Option (α × D)} {k : D} {ks : List D} {d : D} : updAt f (k :: ks) d = (ixD d k).bind fun c => (updAt f ks c).bind fun r => (putIx d k r.2).map fun d' => (r.1, d') := rfl
@[simp] theorem walkD_nil {d : D} : walkD d [] = some d := by cases d <;> rfl
@[simp] theorem walkD_cons {d k : D} {ks : List D} : walkD d (k :: ks) = (ixD d k).bind fun c => walkD c ks := by cases d <;> rfl
@[simp] theorem putIx_lst {xs : List D} {i : Int} {c : D} : putIx (.lst true xs) (.int i) c = (ixN xs.length i).map fun j => .lst true (xs.set j c) := rfl
@[simp] theorem fAppend_lst {v : D} {xs : List D} : fAppend v (.lst true xs) = if xs.length < sizeLine then some (.non, .lst true (xs ++ [v])) else none := rfl
@[simp] theorem fExtend_lst {xs ys : List D} : fExtend (.lst true ys) (.lst true xs) = if xs.length + ys.length ≤ sizeLine then some (.non, .lst true (xs ++ ys)) else none := rfl
@[simp] theorem fPop_concat {xs : List D} {y : D} : fPop (.lst true (xs ++ [y])) = some (y, .lst true xs) := by simp [fPop]
theorem fPopAt_lst {xs : List D} {i : Int} : fPopAt (.int i) (.lst true xs) = (ixN xs.length i).bind fun j => (xs[j]?).map fun y => (y, .lst true (xs.eraseIdx j)) := rfl
@[simp] theorem fSetIx_lst {v : D} {xs : List D} {i : Int} : fSetIx (.int i) v (.lst true xs) = (ixN xs.length i).map fun j => (.non, .lst true (xs.set j v)) := rfl
@[simp] theorem fRemove_lst {xs : List Int} {i : Int} : fRemove (.int i) (.lst true (xs.map D.int)) = if i ∈ xs then some (.non, .lst true ((xs.erase i).map D.int)) else none := by simp [fRemove]
@[simp] theorem mtF_append {v : D} : mtF .append [v] = some (fAppend v) := rfl
@[simp] theorem mtF_extend {v : D} : mtF .extend [v] = some (fExtend v) := rfl
@[simp] theorem mtF_pop : mtF .pop [] = some fPop := rfl
@[simp] theorem mtF_popAt {v : D} : mtF .popAt [v] = some (fPopAt v) := rfl
@[simp] theorem mtF_remove {v : D} : mtF .remove [v] = some (fRemove v) := rfl
@[simp] theorem mtF_dpop {k : D} : mtF .dpop [k, .non] = some (fDPop k) := rfl
@[simp] theorem mtK_dpop {m : Bool} {ks : List (List Key)} {vs : List D} : mtK .dpop (.dT true ks vs) = true := rfl
@[simp] theorem mtK_append {xs : List D} : mtK .append (.lst true xs) = true := rfl
@[simp] theorem mtK_extend {xs : List D} : mtK .extend (.lst true xs) = true := rfl
@[simp] theorem mtK_pop {xs : List D} : mtK .pop (.lst true xs) = true := rfl
@[simp] theorem mtK_popAt {xs : List D} : mtK .popAt (.lst true xs) = true := rfl
@[simp] theorem mtK_remove {xs : List D} : mtK .remove (.lst true xs) = true := rfl
/-! walks -/
theorem rangeD_map {lo : Int} {n : Nat} : rangeD lo n = ((List.range n).map fun i : Nat => lo + (i : Int)).map D.int := by simp [rangeD]
@[simp] theorem rangeD_length {lo : Int} {n : Nat} : (rangeD lo n).length = n := by simp [rangeD]
@[simp] theorem pures_range {lo : Int} {n : Nat} : D.pures (rangeD lo n) = true := by rw [rangeD_map, pures_mapp]; simp
@[simp] theorem frzs_range {lo : Int} {n : Nat} : D.frzs (rangeD lo n) = rangeD lo n := by rw [rangeD_map, frzs_mapp]; simp
@[simp] theorem zipIdxD_length {xs : List D} : (zipIdxD xs).length = xs.length := by simp [zipIdxD]
theorem zipIdxD_map {α : Type} {f : α → D} {xs : List α} : zipIdxD (xs.map f) = xs.zipIdx.map fun p => D.raw [.int p.2, f p.1] := by
  simp [zipIdxD, List.zipIdx_map]
@[simp] theorem okS_nil_s {ρ : Env} : okS [] ρ = true := rfl
@[simp] theorem okS_cons_s {i : Nat} {is : List Nat} {ρ : Env} : (okS (i :: is) ρ = true) = ((∀ d, getS ρ i = some d → d.pure = true) ∧ okS is ρ = true) := by
  rw [okS_cons]
  cases getS ρ i <;> simp
end Mini
set_option linter.all false
/-! P3: lists. -/
namespace Mini
theorem perm_eraseIdx {α : Type} : ∀ (l : List α) (i : Nat) (h : i < l.length), (l[i] :: l.eraseIdx i).Perm l
  | a :: l, 0, _ => by simp
  | a :: l, i + 1, h => by
    simp only [List.getElem_cons_succ, List.eraseIdx_cons_succ]
    exact (List.Perm.swap _ _ _).trans (List.Perm.cons a (perm_eraseIdx l i (by simpa using h)))
theorem map_eraseIdx' {α β : Type} (f : α → β) : ∀ (l : List α) (i : Nat), (l.map f).eraseIdx i = (l.eraseIdx i).map f
  | [], _ => by simp
  | a :: l, 0 => by simp
  | a :: l, i + 1 => by simp [map_eraseIdx' f l i]
section
variable {Φ : Phi} {Q : List D → Env → Prop} {X : Ex → Env → Prop} {ρ : Env}
/-- a map: turns that change nothing, no test -/
theorem lcX_map {α : Type} {own : Bool} {elt : CE} {tg : List Nat} (enc : α → D) (g : α → D) (l : List α)
    (hs : ∀ a ∈ l, optK (bindT tg (enc a) ρ) fun ρ1 => (eltF Φ own elt ρ1).S (fun y ρ3 => y = g a ∧ okS tg ρ3 = true ∧ wipeS tg ρ3 = ρ) noX)
    (he : Q (l.map g) ρ) : (lcX Φ own elt tg .nil (l.map enc) [] ρ).S Q X := by
  refine lcX_pure enc (fun _ => true) g l (fun a ha => ?_) (by rw [List.filter_eq_self.mpr (by simp)]; exact he)
  have q := hs a ha
  revert q
  cases bindT tg (enc a) ρ with
  | none => exact fun q => q
  | some ρ1 => intro q; simpa using q
theorem lcX_mapi {own : Bool} {elt : CE} {tg : List Nat} (g : D → D) (l : List D)
    (hs : ∀ a ∈ l, optK (bindT tg a ρ) fun ρ1 => (eltF Φ own elt ρ1).S (fun y ρ3 => y = g a ∧ okS tg ρ3 = true ∧ wipeS tg ρ3 = ρ) noX)
    (he : Q (l.map g) ρ) : (lcX Φ own elt tg .nil l [] ρ).S Q X := by
  have := lcX_map (Φ := Φ) (Q := Q) (X := X) (ρ := ρ) (own := own) (elt := elt) (tg := tg) (fun d : D => d) g l hs he
  rwa [List.map_id''] at this
  exact fun _ => rfl
theorem lcX_purei {own : Bool} {elt : CE} {tg : List Nat} {cond : CEs} (c : D → Bool) (g : D → D) (l : List D)
    (hs : ∀ a ∈ l, optK (bindT tg a ρ) fun ρ1 => (dC Φ cond ρ1).S (fun b ρ2 => b = c a ∧ condK b ((eltF Φ own elt ρ2).S (fun y ρ3 => y = g a ∧ okS tg ρ3 = true ∧ wipeS tg ρ3 = ρ) noX) (okS tg ρ2 = true ∧ wipeS tg ρ2 = ρ)) noX)
    (he : Q ((l.filter c).map g) ρ) : (lcX Φ own elt tg cond l [] ρ).S Q X := by
  have := lcX_pure (Φ := Φ) (Q := Q) (X := X) (ρ := ρ) (own := own) (elt := elt) (tg := tg) (cond := cond) (fun d : D => d) c g l hs he
  rwa [List.map_id''] at this
  exact fun _ => rfl
end
@[simp] theorem intsOf_mapf {α : Type} {l : List α} {h : α → Int} : intsOf (l.map fun a => D.int (h a)) = some (l.map h) := by
  induction l with
  | nil => rfl
  | cons a l ih => simp [intsOf, ih]
@[simp] theorem boolsOf_mapf {α : Type} {l : List α} {h : α → Bool} : boolsOf (l.map fun a => D.bl (h a)) = some (l.map h) := by
  induction l with
  | nil => rfl
  | cons a l ih => simp [boolsOf, ih]
theorem b1_sum_of {m : Bool} {xs : List D} {ns : List Int} (h : intsOf xs = some ns) : b1D .sum (.lst m xs) = some (.int ns.sum) := by cases m <;> simp [b1D, h]
@[simp] theorem b1_sumf {α : Type} {m : Bool} {l : List α} {h : α → Int} : b1D .sum (.lst m (l.map fun a => D.int (h a))) = some (.int (l.map h).sum) := b1_sum_of intsOf_mapf
@[simp] theorem b1_allf {α : Type} {m : Bool} {l : List α} {h : α → Bool} : b1D .all (.lst m (l.map fun a => D.bl (h a))) = some (.bl (l.all h)) := by cases m <;> simp [b1D, Function.comp_def]
@[simp] theorem b1_anyf {α : Type} {m : Bool} {l : List α} {h : α → Bool} : b1D .any (.lst m (l.map fun a => D.bl (h a))) = some (.bl (l.any h)) := by cases m <;> simp [b1D, Function.comp_def]
theorem dedup_le : ∀ ns : List Int, (dedupI ns).length ≤ ns.length
  | [] => Nat.le_refl _
  | a :: as => by
    have := dedup_le as
    unfold dedupI
    split <;> simp <;> omega
theorem dedup_nodup : ∀ ns : List Int, ((dedupI ns).length = ns.length) ↔ ns.Nodup
  | [] => by simp [dedupI]
  | a :: as => by
    have := dedup_le as
    rw [List.nodup_cons, ← dedup_nodup as]
    by_cases h : a ∈ as
    · have e : dedupI (a :: as) = dedupI as := by rw [dedupI, if_pos h]
      rw [e]
      simp [h]; omega
    · have e : dedupI (a :: as) = a :: dedupI as := by rw [dedupI, if_neg h]
      rw [e]
      simp [h]
section
variable {Φ : Phi} {Q : Fl → Env → Prop} {X : Ex → Env → Prop} {ρ : Env}
theorem forX_ix {α : Type} {tg : List Nat} {body : CS} {w : List Nat} (enc : α → D) (l : List α) (I : Nat → Env → Prop) (h0 : I 0 ρ) (hs : ∀ (k : Nat) (h : k < l.length) (ρ : Env), I k ρ → (stepF Φ tg body (enc l[k]) ρ).S (loopK (I (k + 1)) w Q .t .t .t) X) (he : ∀ ρ, I l.length ρ → Q .next ρ) : (forX Φ tg body w (l.map enc) ρ).S Q X := by
  refine forX_done enc l (fun done ρ => I done.length ρ) h0 (fun done a rest ρ e hI => ?_) he
  have hl : done.length < l.length := by rw [e]; simp
  have ha : l[done.length] = a := by simp [e]
  have := hs done.length hl ρ hI
  rw [ha] at this
  rw [show (done ++ [a]).length = done.length + 1 by simp]
  exact this
theorem forX_enum {α : Type} {tg : List Nat} {body : CS} {w : List Nat} (enc : α → D) (l : List α) (I : Nat → Env → Prop) (h0 : I 0 ρ) (hs : ∀ (k : Nat) (h : k < l.length) (ρ : Env), I k ρ → (stepF Φ tg body (.raw [.int k, enc l[k]]) ρ).S (loopK (I (k + 1)) w Q .t .t .t) X) (he : ∀ ρ, I l.length ρ → Q .next ρ) : (forX Φ tg body w (zipIdxD (l.map enc)) ρ).S Q X := by
  rw [zipIdxD_map]
  refine forX_ix (fun p : α × Nat => D.raw [.int p.2, enc p.1]) l.zipIdx I h0 (fun k h ρ hI => ?_) (fun ρ hI => he ρ (by simpa using hI))
  have hk : k < l.length := by simpa using h
  have := hs k hk ρ hI
  simpa using this
end
theorem lcX_enum {Φ : Phi} {Q : List D → Env → Prop} {X : Ex → Env → Prop} {ρ : Env} {α : Type} {own : Bool} {elt : CE} {tg : List Nat} {cond : CEs} (enc : α → D) (c : α → Nat → Bool) (g : α → Nat → D) (l : List α)
    (hs : ∀ (k : Nat) (h : k < l.length), optK (bindT tg (.raw [.int k, enc l[k]]) ρ) fun ρ1 => (dC Φ cond ρ1).S (fun b ρ2 => b = c l[k] k ∧ condK b ((eltF Φ own elt ρ2).S (fun y ρ3 => y = g l[k] k ∧ okS tg ρ3 = true ∧ wipeS tg ρ3 = ρ) noX) (okS tg ρ2 = true ∧ wipeS tg ρ2 = ρ)) noX)
    (he : Q ((l.zipIdx.filter fun p => c p.1 p.2).map fun p => g p.1 p.2) ρ) : (lcX Φ own elt tg cond (zipIdxD (l.map enc)) [] ρ).S Q X := by
  rw [zipIdxD_map]
  refine lcX_pure (fun p : α × Nat => D.raw [.int p.2, enc p.1]) (fun p => c p.1 p.2) (fun p => g p.1 p.2) l.zipIdx (fun p hp => ?_) he
  obtain ⟨a, k⟩ := p
  have h2 := List.mk_mem_zipIdx_iff_getElem?.mp hp
  obtain ⟨h3, rfl⟩ := List.getElem?_eq_some_iff.mp h2
  exact hs k h3
end Mini
set_option linter.all false
set_option maxRecDepth 100000
/-! D42: the defs new with law k42, as terms. Printed by libgen.py. -/
namespace Mini
open PySem L2
def f_is_whole : CF := ⟨"is_whole", 1, ["thing"], [], false,
  (.seq (.ret (.bop true (.cons (.isi (.var 0) .int) (.cons (.not (.isi (.var 0) .bool)) .nil))))
  .skip)⟩
def f_neighbour_rows : CF := ⟨"neighbour_rows", 1, ["web", "found", "i", "k", "place", "row"], [], false,
  (.seq (.asg 1 true (.lc true (.lst false .nil) [4] (.rng1 (.ix (.var 0) (.cst (.int 0)))) .nil))
  (.seq (.for_ [2, 3] (.seq (.ix (.var 0) (.cst (.int 1))))
   (.seq (.ex (.mth (.ix (.var 1) (.var 2)) .append (.cons (.var 3) .nil)))
   .skip) [])
  (.seq (.ret (.lc false (.b1 .tuple (.var 5)) [5] (.seq (.frz 1)) .nil))
  .skip)))⟩
def f_are_places (i_is_whole : Nat) : CF := ⟨"are_places", 2, ["many", "thing", "one"], [], false,
  (.seq (.ifs (.bop false (.cons (.not (.isi (.var 1) .tuple)) (.cons (.not (.b1 .all (.lc false (.bop true (.cons (.call i_is_whole (.val (.var 2) .nil)) (.cons (.chn .LtE .Lt (.cst (.int 0)) (.var 2) (.var 0)) .nil))) [2] (.seq (.var 1)) .nil))) .nil)))
   (.seq (.ret (.cst (.bl false)))
   .skip)
   .skip)
  (.seq (.ret (.cmp .Eq (.b1 .lenset (.var 1)) (.b1 .len (.var 1))))
  .skip))⟩
def f_is_ring (i_are_places i_neighbour_rows : Nat) : CF := ⟨"is_ring", 2, ["web", "thing", "near", "at", "one", "there", "is_next"], [], false,
  (.seq (.ifs (.bop false (.cons (.not (.call i_are_places (.val (.ix (.var 0) (.cst (.int 0))) (.val (.var 1) .nil)))) (.cons (.cmp .Lt (.b1 .len (.var 1)) (.glb "LEAST_RING" (.int 4))) .nil)))
   (.seq (.ret (.cst (.bl false)))
   .skip)
   .skip)
  (.seq (.asg 2 false (.call i_neighbour_rows (.val (.var 0) .nil)))
  (.seq (.for_ [3, 4] (.enum (.var 1))
   (.seq (.for_ [5] (.rng2 (.bin .Add (.var 3) (.cst (.int 1))) (.b1 .len (.var 1)))
    (.seq (.asg 6 false (.bop false (.cons (.cmp .Eq (.var 5) (.bin .Add (.var 3) (.cst (.int 1)))) (.cons (.bop true (.cons (.cmp .Eq (.var 3) (.cst (.int 0))) (.cons (.cmp .Eq (.var 5) (.bin .Sub (.b1 .len (.var 1)) (.cst (.int 1)))) .nil))) .nil))))
    (.seq (.ifs (.cmp .NotEq (.cmp .In (.ix (.var 1) (.var 5)) (.ix (.var 2) (.var 4))) (.var 6))
     (.seq (.ret (.cst (.bl false)))
     .skip)
     .skip)
    .skip)) [6])
   .skip) [5, 6])
  (.seq (.ret (.cst (.bl true)))
  .skip))))⟩
def f_law_deck : CF := ⟨"_law_deck", 1, ["script", "cells", "seed", "k", "cell"], [], true,
  (.seq (.asg 1 false (.b1 .list (.slc (.var 0) .no (.yes (.cst (.int 63))))))
  (.seq (.asg 2 false (.bin .Add (.bin .Add (.bin .Mult (.cst (.int 43)) (.b1 .len (.var 1))) (.cst (.int 7))) (.b1 .sum (.lc false (.bin .Mult (.bin .Mod (.var 4) (.cst (.int 1000003))) (.bin .Add (.var 3) (.cst (.int 1)))) [3, 4] (.enum (.var 1)) .nil))))
  (.seq (.ret (.lst true (.cons (.rev (.var 1)) (.cons (.var 2) (.cons (.cst (.int 0)) .nil)))))
  .skip)))⟩
def f_law_draw : CF := ⟨"_law_draw", 2, ["deck", "most", "cell", "number"], [0], false,
  (.seq (.setp true (.var 0) (.cst (.int 2)) (.bin .Add (.ix (.var 0) (.cst (.int 2))) (.cst (.int 1))))
  (.seq (.asg 2 false (.bin .Add (.ix (.var 0) (.cst (.int 1))) (.bin .Mult (.cst (.int 15485863)) (.ix (.var 0) (.cst (.int 2))))))
  (.seq (.ifs (.cmp .NotEq (.ix (.var 0) (.cst (.int 0))) (.lst false .nil))
   (.seq (.asg 2 false (.mth (.ix (.var 0) (.cst (.int 0))) .pop .nil))
   (.seq (.ifs (.cmp .GtE (.var 2) (.bin .Pow (.cst (.int 10)) (.cst (.int 18))))
    (.seq (.ex (.mth (.ix (.var 0) (.cst (.int 0))) .append (.cons (.bin .FloorDiv (.var 2) (.var 1)) .nil)))
    (.seq (.ret (.bin .Mod (.var 2) (.var 1)))
    .skip))
    .skip)
   .skip))
   .skip)
  (.seq (.asg 3 false (.bin .Mod (.bin .Mult (.bin .Add (.bin .Mod (.var 2) (.cst (.int 2147483629))) (.bin .Mult (.cst (.int 7919)) (.ix (.var 0) (.cst (.int 2))))) (.cst (.int 48271))) (.cst (.int 2147483647))))
  (.seq (.asg 3 false (.bin .Mod (.bin .Add (.bin .Add (.bin .Mult (.var 3) (.var 3)) (.bin .Mult (.cst (.int 69621)) (.var 3))) (.ix (.var 0) (.cst (.int 2)))) (.cst (.int 2147483587))))
  (.seq (.ret (.bin .Mod (.bin .FloorDiv (.var 3) (.cst (.int 64))) (.var 1)))
  .skip))))))⟩
def f_law_turned (i_law_draw : Nat) : CF := ⟨"_law_turned", 2, ["deck", "many", "left", "k"], [0], false,
  (.seq (.asg 2 true (.rng false (.var 1)))
  (.seq (.ret (.lc false (.mth (.var 2) .popAt (.cons (.call i_law_draw (.io 0 (.val (.b1 .len (.var 2)) .nil))) .nil)) [3] (.rng1 (.var 1)) .nil))
  .skip))⟩
def f_law_shape (i_law_draw : Nat) : CF := ⟨"_law_shape", 3, ["deck", "way", "many", "cut", "wide", "pairs", "k", "tree", "i"], [0], false,
  (.seq (.asg 3 false (.call i_law_draw (.io 0 (.val (.bin .Add (.var 2) (.cst (.int 1))) .nil))))
  (.seq (.asg 4 false (.bin .Add (.cst (.int 2)) (.call i_law_draw (.io 0 (.val (.cst (.int 3)) .nil)))))
  (.seq (.asg 5 true (.lst false .nil))
  (.seq (.for_ [6] (.rng1 (.var 2))
   (.seq (.asg 7 false (.call i_law_draw (.io 0 (.val (.b2 .max (.cst (.int 1)) (.var 6)) .nil))))
   (.seq (.for_ [8] (.rng1 (.var 6))
    (.seq (.ifs (.bop true (.cons (.cmp .Lt (.var 1) (.cst (.int 3))) (.cons (.cmp .LtE (.call i_law_draw (.io 0 (.val (.cst (.int 4)) .nil))) (.var 1)) .nil)))
     (.seq (.ex (.mth (.var 5) .append (.cons (.rtup (.cons (.var 8) (.cons (.var 6) .nil))) .nil)))
     .skip)
     .skip)
    (.seq (.ifs (.bop false (.cons (.bop true (.cons (.cmp .In (.var 1) (.tup (.cons (.cst (.int 3)) (.cons (.cst (.int 4)) .nil)))) (.cons (.cmp .Eq (.var 8) (.bin .Sub (.var 6) (.cst (.int 1)))) .nil))) (.cons (.bop true (.cons (.cmp .Eq (.var 1) (.cst (.int 4))) (.cons (.cmp .Eq (.var 8) (.cst (.int 0))) (.cons (.cmp .Eq (.var 6) (.bin .Sub (.var 2) (.cst (.int 1)))) .nil)))) .nil)))
     (.seq (.ex (.mth (.var 5) .append (.cons (.rtup (.cons (.var 8) (.cons (.var 6) .nil))) .nil)))
     .skip)
     .skip)
    (.seq (.ifs (.bop false (.cons (.bop true (.cons (.cmp .Eq (.var 1) (.cst (.int 5))) (.cons (.cmp .Eq (.var 8) (.cst (.int 0))) .nil))) (.cons (.bop true (.cons (.cmp .Eq (.var 1) (.cst (.int 6))) (.cons (.cmp .Eq (.var 8) (.var 7)) .nil))) .nil)))
     (.seq (.ex (.mth (.var 5) .append (.cons (.rtup (.cons (.var 8) (.cons (.var 6) .nil))) .nil)))
     .skip)
     .skip)
    (.seq (.ifs (.bop false (.cons (.bop true (.cons (.cmp .Eq (.var 1) (.cst (.int 7))) (.cons (.bop false (.cons (.cmp .GtE (.var 8) (.var 3)) (.cons (.cmp .LtE (.var 6) (.bin .Add (.var 3) (.cst (.int 1)))) .nil))) .nil))) (.cons (.bop true (.cons (.cmp .Eq (.var 1) (.cst (.int 8))) (.cons (.chn .Lt .LtE (.var 8) (.var 3) (.var 6)) .nil))) .nil)))
     (.seq (.ex (.mth (.var 5) .append (.cons (.rtup (.cons (.var 8) (.cons (.var 6) .nil))) .nil)))
     .skip)
     .skip)
    (.seq (.ifs (.bop true (.cons (.cmp .Eq (.var 1) (.cst (.int 9))) (.cons (.bop false (.cons (.bop true (.cons (.cmp .Eq (.var 8) (.bin .Sub (.var 6) (.cst (.int 1)))) (.cons (.cmp .Gt (.bin .Mod (.var 6) (.var 4)) (.cst (.int 0))) .nil))) (.cons (.cmp .Eq (.var 8) (.bin .Sub (.var 6) (.var 4))) .nil))) .nil)))
     (.seq (.ex (.mth (.var 5) .append (.cons (.rtup (.cons (.var 8) (.cons (.var 6) .nil))) .nil)))
     .skip)
     .skip)
    (.seq (.ifs (.bop true (.cons (.cmp .Eq (.var 1) (.cst (.int 10))) (.cons (.cmp .NotEq (.var 8) (.bin .Sub (.var 6) (.cst (.int 1)))) (.cons (.cmp .NotEq (.rtup (.cons (.var 8) (.cons (.var 6) .nil))) (.rtup (.cons (.cst (.int 0)) (.cons (.bin .Sub (.var 2) (.cst (.int 1))) .nil)))) .nil))))
     (.seq (.ex (.mth (.var 5) .append (.cons (.rtup (.cons (.var 8) (.cons (.var 6) .nil))) .nil)))
     .skip)
     .skip)
    .skip)))))) [])
   .skip)) [7, 8])
  (.seq (.ret (.mv 5))
  .skip)))))⟩
def f_law_web_of : CF := ⟨"_law_web_of", 2, ["many", "pairs", "cells", "i", "k"], [], false,
  (.seq (.asg 2 true (.dnew true))
  (.seq (.for_ [3, 4] (.seq (.var 1))
   (.seq (.setp false (.var 2) (.rtup (.cons (.var 3) (.cons (.var 4) .nil))) (.cst (.bl true)))
   (.seq (.setp false (.var 2) (.rtup (.cons (.var 4) (.cons (.var 3) .nil))) (.cst (.bl true)))
   .skip)) [])
  (.seq (.ret (.tup (.cons (.var 0) (.cons (.b1 .tuple (.b1 .sorted (.var 2))) .nil))))
  .skip)))⟩
def f_law_web (i_law_draw i_law_turned i_law_shape i_law_web_of : Nat) : CF := ⟨"_law_web", 2, ["deck", "most", "way", "great", "bent", "many", "turned", "pairs", "k", "i", "pair"], [0], false,
  (.seq (.asg 2 false (.call i_law_draw (.io 0 (.val (.cst (.int 11)) .nil))))
  (.seq (.asg 3 false (.b1 .int (.cmp .Eq (.call i_law_draw (.io 0 (.val (.cst (.int 8)) .nil))) (.cst (.int 5)))))
  (.seq (.asg 4 false (.cmp .Eq (.call i_law_draw (.io 0 (.val (.cst (.int 4)) .nil))) (.cst (.int 0))))
  (.seq (.asg 5 false (.ix (.lst false (.cons (.bin .Add (.cst (.int 1)) (.call i_law_draw (.io 0 (.val (.cst (.int 6)) .nil)))) (.cons (.b2 .max (.cst (.int 1)) (.bin .Sub (.var 1) (.call i_law_draw (.io 0 (.val (.cst (.int 4)) .nil))))) .nil))) (.var 3)))
  (.seq (.asg 6 false (.call i_law_turned (.io 0 (.val (.var 5) .nil))))
  (.seq (.asg 7 true (.b1 .dictT (.lc false (.tup (.cons (.var 10) (.cons (.cst (.bl true)) .nil))) [10] (.seq (.call i_law_shape (.io 0 (.val (.var 2) (.val (.var 5) .nil))))) .nil)))
  (.seq (.for_ [8] (.rng1 (.bin .Mult (.cst (.int 2)) (.b1 .int (.bop true (.cons (.var 4) (.cons (.cmp .Gt (.var 5) (.cst (.int 1))) .nil))))))
   (.seq (.asg 9 false (.call i_law_draw (.io 0 (.val (.var 5) .nil))))
   (.seq (.asg 10 false (.b1 .rtuple (.b1 .sorted (.lst false (.cons (.var 9) (.cons (.bin .Mod (.bin .Add (.bin .Add (.var 9) (.cst (.int 1))) (.call i_law_draw (.io 0 (.val (.bin .Sub (.var 5) (.cst (.int 1))) .nil)))) (.var 5)) .nil))))))
   (.seq (.ifs (.cmp .Is (.mth (.var 7) .dpop (.cons (.var 10) (.cons (.cst .non) .nil))) (.cst .non))
    (.seq (.setp false (.var 7) (.var 10) (.cst (.bl true)))
    .skip)
    .skip)
   .skip))) [])
  (.seq (.ret (.call i_law_web_of (.val (.var 5) (.val (.lc false (.tup (.cons (.ix (.var 6) (.var 9)) (.cons (.ix (.var 6) (.var 8)) .nil))) [9, 8] (.keys (.frz 7)) .nil) .nil))))
  .skip))))))))⟩
def f_law_near : CF := ⟨"_law_near", 1, ["web", "near", "i", "k"], [], false,
  (.seq (.asg 1 true (.lc true (.dnew false) [3] (.rng1 (.ix (.var 0) (.cst (.int 0)))) .nil))
  (.seq (.for_ [2, 3] (.seq (.ix (.var 0) (.cst (.int 1))))
   (.seq (.setp false (.ix (.var 1) (.var 2)) (.var 3) (.cst (.bl true)))
   .skip) [])
  (.seq (.ret (.mv 1))
  .skip)))⟩
def f_law_are_near : CF := ⟨"_law_are_near", 2, ["near", "some", "i", "k"], [], false,
  (.seq (.for_ [2] (.seq (.var 1))
   (.seq (.ifs (.cmp .NotEq (.lc false (.var 3) [3] (.seq (.var 1)) (.cons (.bop true (.cons (.cmp .NotEq (.var 3) (.var 2)) (.cons (.cmp .NotIn (.var 3) (.ix (.var 0) (.var 2))) .nil))) .nil)) (.lst false .nil))
    (.seq (.ret (.cst (.bl false)))
    .skip)
    .skip)
   .skip) [])
  (.seq (.ret (.cst (.bl true)))
  .skip))⟩
def f_law_whole : CF := ⟨"_law_whole", 1, ["thing"], [], false,
  (.seq (.ret (.bop true (.cons (.isi (.var 0) .int) (.cons (.not (.isi (.var 0) .bool)) .nil))))
  .skip)⟩
def f_law_are_places (i_law_whole : Nat) : CF := ⟨"_law_are_places", 2, ["many", "thing", "one"], [], false,
  (.seq (.ifs (.bop false (.cons (.not (.isi (.var 1) .tuple)) (.cons (.cmp .NotEq (.lc false (.var 2) [2] (.seq (.var 1)) (.cons (.not (.call i_law_whole (.val (.var 2) .nil))) .nil)) (.lst false .nil)) .nil)))
   (.seq (.ret (.cst (.bl false)))
   .skip)
   .skip)
  (.seq (.ret (.cmp .Eq (.lc false (.var 2) [2] (.seq (.var 1)) (.cons (.bop false (.cons (.not (.chn .LtE .Lt (.cst (.int 0)) (.var 2) (.var 0))) (.cons (.cmp .Gt (.cnt (.var 1) (.var 2)) (.cst (.int 1))) .nil))) .nil)) (.lst false .nil)))
  .skip))⟩
def f_law_is_ring (i_law_are_places i_law_near : Nat) : CF := ⟨"_law_is_ring", 2, ["web", "thing", "near", "k", "one", "beside", "other"], [], false,
  (.seq (.ifs (.bop false (.cons (.not (.call i_law_are_places (.val (.ix (.var 0) (.cst (.int 0))) (.val (.var 1) .nil)))) (.cons (.cmp .Lt (.b1 .len (.var 1)) (.cst (.int 4))) .nil)))
   (.seq (.ret (.cst (.bl false)))
   .skip)
   .skip)
  (.seq (.asg 2 false (.call i_law_near (.val (.var 0) .nil)))
  (.seq (.for_ [3, 4] (.enum (.var 1))
   (.seq (.asg 5 false (.lst false (.cons (.ix (.var 1) (.bin .Sub (.var 3) (.cst (.int 1)))) (.cons (.ix (.var 1) (.bin .Mod (.bin .Add (.var 3) (.cst (.int 1))) (.b1 .len (.var 1)))) .nil))))
   (.seq (.ifs (.cmp .NotEq (.b1 .sorted (.lc false (.var 6) [6] (.seq (.var 1)) (.cons (.cmp .In (.var 6) (.ix (.var 2) (.var 4))) .nil))) (.b1 .sorted (.var 5)))
    (.seq (.ret (.cst (.bl false)))
    .skip)
    .skip)
   .skip)) [5])
  (.seq (.ret (.cst (.bl true)))
  .skip))))⟩
def f_law_odd (i_law_draw : Nat) : CF := ⟨"_law_odd", 2, ["deck", "part", "some"], [0], false,
  (.seq (.asg 2 false (.lst false (.cons (.cst .non) (.cons (.cst (.str "")) (.cons (.cst (.str "order")) (.cons (.cst (.str "ring")) (.cons (.tup .nil) (.cons (.lst false .nil) (.cons (.dnew false) (.cons (.lst false (.cons (.var 1) .nil)) (.cons (.tup (.cons (.var 1) .nil)) (.cons (.done (.cst (.int 0)) (.var 1)) (.cons (.lst false (.cons (.cst (.int 0)) .nil)) (.cons (.cst (.bl true)) (.cons (.cst (.bl false)) (.cons (.neg (.cst (.int 1))) (.cons (.bin .Pow (.cst (.int 10)) (.cst (.int 39))) .nil)))))))))))))))))
  (.seq (.ret (.ix (.bin .Add (.var 2) (.lst false (.cons (.bin .Sub (.cst (.int 0)) (.bin .Pow (.cst (.int 10)) (.cst (.int 39)))) (.cons (.tup (.cons (.cst (.str "order")) .nil)) (.cons (.tup (.cons (.cst (.str "ring")) (.cons (.tup .nil) .nil))) (.cons (.b1 .str (.var 1)) (.cons (.cst (.int 0)) (.cons (.tup (.cons (.tup (.cons (.cst (.int 0)) (.cons (.cst (.int 1)) .nil))) (.cons (.tup (.cons (.cst (.int 1)) (.cons (.cst (.int 2)) .nil))) .nil))) .nil)))))))) (.call i_law_draw (.io 0 (.val (.cst (.int 21)) .nil)))))
  .skip))⟩
def f_law_spoilt (i_law_draw i_law_spoilt i_law_odd : Nat) : CF := ⟨"_law_spoilt", 2, ["deck", "thing", "way", "at", "two", "some"], [0], false,
  (.seq (.asg 2 false (.call i_law_draw (.io 0 (.val (.cst (.int 8)) .nil))))
  (.seq (.ifs (.bop true (.cons (.isi (.var 1) .tuple) (.cons (.cmp .NotEq (.var 1) (.tup .nil)) (.cons (.cmp .Lt (.var 2) (.cst (.int 5))) .nil))))
   (.seq (.asg 3 false (.call i_law_draw (.io 0 (.val (.b1 .len (.var 1)) .nil))))
   (.seq (.ret (.bin .Add (.bin .Add (.slc (.var 1) .no (.yes (.var 3))) (.tup (.cons (.call i_law_spoilt (.io 0 (.val (.ix (.var 1) (.var 3)) .nil))) .nil))) (.slc (.var 1) (.yes (.bin .Add (.var 3) (.cst (.int 1)))) .no)))
   .skip))
   .skip)
  (.seq (.ifs (.isi (.var 1) .tuple)
   (.seq (.asg 3 false (.call i_law_draw (.io 0 (.val (.bin .Add (.b1 .len (.var 1)) (.cst (.int 1))) .nil))))
   (.seq (.asg 4 false (.slc (.var 1) (.yes (.var 3)) (.yes (.bin .Add (.var 3) (.cst (.int 2))))))
   (.seq (.asg 5 false (.lst false (.cons (.bin .Add (.slc (.var 1) .no (.yes (.var 3))) (.slc (.var 1) (.yes (.bin .Add (.var 3) (.cst (.int 1)))) .no)) (.cons (.bin .Add (.slc (.var 1) .no (.yes (.bin .Add (.var 3) (.cst (.int 1))))) (.slc (.var 1) (.yes (.var 3)) .no)) (.cons (.bin .Add (.bin .Add (.slc (.var 1) .no (.yes (.var 3))) (.rev (.var 4))) (.slc (.var 1) (.yes (.bin .Add (.var 3) (.cst (.int 2)))) .no)) .nil)))))
   (.seq (.ret (.ix (.bin .Add (.var 5) (.lst false (.cons (.b1 .list (.var 1)) (.cons (.rev (.var 1)) (.cons (.bin .Add (.var 1) (.tup (.cons (.cst (.int 0)) .nil))) (.cons (.tup (.cons (.var 1) .nil)) .nil)))))) (.call i_law_draw (.io 0 (.val (.cst (.int 7)) .nil)))))
   .skip))))
   .skip)
  (.seq (.ifs (.bop true (.cons (.isi (.var 1) .int) (.cons (.cmp .Lt (.var 2) (.cst (.int 6))) .nil)))
   (.seq (.ret (.ix (.lst false (.cons (.bin .Add (.var 1) (.cst (.int 1))) (.cons (.bin .Sub (.var 1) (.cst (.int 1))) (.cons (.cmp .Eq (.var 1) (.cst (.int 1))) (.cons (.b1 .str (.var 1)) (.cons (.lst false (.cons (.var 1) .nil)) (.cons (.done (.cst (.int 0)) (.var 1)) .nil))))))) (.var 2)))
   .skip)
   .skip)
  (.seq (.ret (.call i_law_odd (.io 0 (.val (.var 1) .nil))))
  .skip)))))⟩
def f_law_ringed (i_law_draw i_law_turned i_law_web_of : Nat) : CF := ⟨"_law_ringed", 1, ["deck", "great", "long", "more", "turned", "pairs", "k", "way", "at", "j", "i"], [0], false,
  (.seq (.asg 1 false (.b1 .int (.cmp .Eq (.call i_law_draw (.io 0 (.val (.cst (.int 4)) .nil))) (.cst (.int 1)))))
  (.seq (.asg 2 false (.bin .Add (.cst (.int 4)) (.call i_law_draw (.io 0 (.val (.ix (.lst false (.cons (.cst (.int 4)) (.cons (.cst (.int 21)) .nil))) (.var 1)) .nil)))))
  (.seq (.asg 3 false (.call i_law_draw (.io 0 (.val (.b2 .min (.cst (.int 4)) (.bin .Sub (.cst (.int 25)) (.var 2))) .nil))))
  (.seq (.asg 4 false (.call i_law_turned (.io 0 (.val (.bin .Add (.var 2) (.var 3)) .nil))))
  (.seq (.asg 5 true (.lc false (.tup (.cons (.var 6) (.cons (.bin .Mod (.bin .Add (.var 6) (.cst (.int 1))) (.var 2)) .nil))) [6] (.rng1 (.var 2)) .nil))
  (.seq (.for_ [6] (.rng2 (.var 2) (.bin .Add (.var 2) (.var 3)))
   (.seq (.asg 7 false (.call i_law_draw (.io 0 (.val (.cst (.int 4)) .nil))))
   (.seq (.asg 8 false (.call i_law_draw (.io 0 (.val (.var 2) .nil))))
   (.seq (.ex (.mth (.var 5) .extend (.cons (.lc false (.tup (.cons (.var 6) (.cons (.bin .Mod (.bin .Add (.var 8) (.var 9)) (.var 2)) .nil))) [9] (.rng1 (.ix (.lst false (.cons (.cst (.int 0)) (.cons (.cst (.int 1)) (.cons (.cst (.int 2)) (.cons (.var 2) .nil))))) (.var 7))) .nil) .nil)))
   .skip))) [7, 8])
  (.seq (.ret (.tup (.cons (.call i_law_web_of (.val (.bin .Add (.var 2) (.var 3)) (.val (.lc false (.tup (.cons (.ix (.var 4) (.var 10)) (.cons (.ix (.var 4) (.var 6)) .nil))) [10, 6] (.seq (.frz 5)) .nil) .nil))) (.cons (.b1 .tuple (.slc (.var 4) .no (.yes (.var 2)))) .nil))))
  .skip)))))))⟩
def f_law_about (i_law_draw : Nat) : CF := ⟨"_law_about", 2, ["deck", "ring", "at"], [0], false,
  (.seq (.asg 2 false (.call i_law_draw (.io 0 (.val (.b1 .len (.var 1)) .nil))))
  (.seq (.asg 1 false (.bin .Add (.slc (.var 1) (.yes (.var 2)) .no) (.slc (.var 1) .no (.yes (.var 2)))))
  (.seq (.ret (.ix (.lst false (.cons (.var 1) (.cons (.rev (.var 1)) .nil))) (.call i_law_draw (.io 0 (.val (.cst (.int 2)) .nil)))))
  .skip)))⟩
def f_law_near_rings (i_law_draw i_law_web_of : Nat) : CF := ⟨"_law_near_rings", 3, ["deck", "web", "ring", "at", "far", "there", "less", "pair"], [0], false,
  (.seq (.asg 3 false (.call i_law_draw (.io 0 (.val (.b1 .len (.var 2)) .nil))))
  (.seq (.asg 4 false (.bin .Add (.cst (.int 2)) (.call i_law_draw (.io 0 (.val (.bin .Sub (.b1 .len (.var 2)) (.cst (.int 3))) .nil)))))
  (.seq (.asg 5 false (.bin .Mod (.bin .Add (.var 3) (.var 4)) (.b1 .len (.var 2))))
  (.seq (.asg 6 false (.lc false (.var 7) [7] (.seq (.ix (.var 1) (.cst (.int 1)))) (.cons (.cmp .NotEq (.b1 .sorted (.var 7)) (.b1 .sorted (.lst false (.cons (.ix (.var 2) (.var 3)) (.cons (.ix (.var 2) (.bin .Sub (.var 3) (.cst (.int 1)))) .nil))))) .nil)))
  (.seq (.ret (.lst false (.cons (.call i_law_web_of (.val (.ix (.var 1) (.cst (.int 0))) (.val (.bin .Add (.b1 .list (.ix (.var 1) (.cst (.int 1)))) (.lst false (.cons (.tup (.cons (.ix (.var 2) (.var 3)) (.cons (.ix (.var 2) (.var 5)) .nil))) .nil))) .nil))) (.cons (.call i_law_web_of (.val (.ix (.var 1) (.cst (.int 0))) (.val (.var 6) .nil))) .nil))))
  .skip)))))⟩
def f_law_told (i_is_ring i_law_is_ring : Nat) : CF := ⟨"_law_told", 2, ["web", "thing", "kept", "found"], [], false,
  (.seq (.asg 2 false (.b1 .repr (.var 1)))
  (.seq (.asg 3 false (.call i_is_ring (.val (.var 0) (.val (.var 1) .nil))))
  (.seq (.ret (.bop true (.cons (.isi (.var 3) .bool) (.cons (.cmp .Eq (.var 3) (.call i_law_is_ring (.val (.var 0) (.val (.var 1) .nil)))) (.cons (.cmp .Eq (.b1 .repr (.var 1)) (.var 2)) .nil)))))
  .skip)))⟩
def f_law_k42 (i_law_deck i_law_ringed i_law_about i_is_ring i_law_near_rings i_law_web i_law_spoilt i_law_draw i_law_odd i_law_told : Nat) : CF := ⟨"law", 1, ["script", "deck", "turn", "others", "things", "k", "thing", "web", "ring", "one"], [], false,
  (.seq (.asg 1 true (.call i_law_deck (.val (.var 0) .nil)))
  (.seq (.for_ [2] (.rng1 (.cst (.int 3)))
   (.seq (.asgT [7, 8] (.call i_law_ringed (.io 1 .nil)))
   (.seq (.ifs (.cmp .IsNot (.call i_is_ring (.val (.var 7) (.val (.call i_law_about (.io 1 (.val (.var 8) .nil))) .nil))) (.cst (.bl true)))
    (.seq (.ret (.cst (.bl false)))
    .skip)
    .skip)
   (.seq (.asg 3 false (.bin .Add (.call i_law_near_rings (.io 1 (.val (.var 7) (.val (.var 8) .nil)))) (.lst false (.cons (.call i_law_web (.io 1 (.val (.cst (.int 24)) .nil))) .nil))))
   (.seq (.asg 4 true (.lst false (.cons (.var 8) (.cons (.slc (.var 8) .no (.yes (.neg (.cst (.int 1))))) (.cons (.slc (.var 8) (.yes (.cst (.int 1))) .no) (.cons (.bin .Add (.var 8) (.slc (.var 8) .no (.yes (.cst (.int 1))))) (.cons (.bin .Add (.var 8) (.var 8)) (.cons (.slc (.var 8) .no (.yes (.cst (.int 3)))) (.cons (.b1 .list (.var 8)) (.cons (.tup .nil) (.cons (.cst .non) .nil)))))))))))
   (.seq (.for_ [5] (.rng1 (.cst (.int 10)))
    (.seq (.asg 6 false (.call i_law_spoilt (.io 1 (.val (.call i_law_about (.io 1 (.val (.var 8) .nil))) .nil))))
    (.seq (.ifs (.cmp .Eq (.call i_law_draw (.io 1 (.val (.cst (.int 3)) .nil))) (.cst (.int 0)))
     (.seq (.asg 6 false (.call i_law_spoilt (.io 1 (.val (.var 6) .nil))))
     .skip)
     .skip)
    (.seq (.ex (.mth (.var 4) .append (.cons (.var 6) .nil)))
    .skip))) [])
   (.seq (.for_ [6] (.seq (.bin .Add (.frz 4) (.lst false (.cons (.call i_law_odd (.io 1 (.val (.ix (.var 8) (.cst (.int 0))) .nil))) (.cons (.rng true (.ix (.var 7) (.cst (.int 0)))) (.cons (.var 8) .nil))))))
    (.seq (.for_ [9] (.seq (.bin .Add (.bin .Add (.lst false (.cons (.var 7) .nil)) (.var 3)) (.lst false (.cons (.var 7) .nil))))
     (.seq (.ifs (.not (.call i_law_told (.val (.var 9) (.val (.var 6) .nil))))
      (.seq (.ret (.cst (.bl false)))
      .skip)
      .skip)
     .skip) [])
    .skip) [9])
   .skip)))))) [7, 8, 3, 4, 5, 6, 9])
  (.seq (.ret (.cst (.bl true)))
  .skip)))⟩
end Mini
set_option linter.all false
set_option maxRecDepth 100000
/-! T42: the defs of law k42 by their places. Printed by libgen.py. -/
namespace Mini
namespace k42
open PySem L2
def pt : List (CF × Nat) := [((f_is_whole), 1), ((f_neighbour_rows), 3), ((f_are_places 0), 6), ((f_is_ring 2 1), 7), ((f_law_deck), 9), ((f_law_draw), 10), ((f_law_turned 5), 11), ((f_law_shape 5), 12), ((f_law_web_of), 13), ((f_law_web 5 6 7 8), 14), ((f_law_near), 15), ((f_law_are_near), 16), ((f_law_whole), 17), ((f_law_are_places 12), 18), ((f_law_is_ring 13 10), 19), ((f_law_odd 5), 20), ((f_law_spoilt 5 16 15), 21), ((f_law_ringed 5 6 8), 22), ((f_law_about 5), 23), ((f_law_near_rings 5 8), 24), ((f_law_told 3 14), 25), ((f_law_k42 4 17 18 3 19 9 16 5 15 20), 26)]
def cs : List (Str × Int) := [("LEAST_RING", 4)]
def prog : List CF := pt.map (·.1)
end k42
end Mini
set_option linter.all false
set_option maxRecDepth 100000
namespace Mini
open PySem L2
/-! ### the deck of drawn numbers -/
structure Dk where
  cs : List Int
  seed : Int
  n : Int
def Dk.D (d : Dk) : Mini.D := .lst true [.lst true (d.cs.map .int), .int d.seed, .int d.n]
def Dk.ok (d : Dk) : Prop := d.cs.length ≤ 63
@[simp] theorem Dk.pure_D {d : Dk} : d.D.pure = false := rfl
def DrawS (F : List Mini.D → Cr) : Prop := ∀ (d : Dk) (m : Int), d.ok → 0 < m → m < 2 ^ 30 → (F [d.D, .int m]).S (fun r o => ∃ i d', r = .int i ∧ 0 ≤ i ∧ i < m ∧ d'.ok ∧ o = [Dk.D d']) noX
theorem draw_ok {Φ : Phi} : DrawS (rF Φ f_law_draw) := by
  intro d m hd hm hm2
  refine S_def rfl ?_
  obtain ⟨cs, seed, n⟩ := d
  replace hd : cs.length ≤ 63 := hd
  have hm3 : m < 1073741824 := hm2
  have e : Dk.D ⟨cs, seed, n⟩ = .lst true [.lst true (cs.map .int), .int seed, .int n] := rfl
  rw [e]
  simp [f_law_draw, CF.start]
  refine Rx.S_mid (fun fl ρ => ∃ (d' : Dk) (c : Int), ρ = [some d'.D, some (.int m), some (.int c), none] ∧ d'.ok ∧ (fl = .next ∨ ∃ i, fl = .ret (.int i) ∧ 0 ≤ i ∧ i < m)) ?_ ?_
  · simp [SS_ifs]
    refine ⟨fun h => ?_, fun h => ?_⟩
    · rcases List.eq_nil_or_concat cs with e | ⟨init, last, rfl⟩
      · simp [e] at h
      · simp [SS_ifs]
        simp at hd
        refine ⟨fun h => ?_, fun h => ?_⟩
        · simp [hm, hm3, sizeLine_eq]
          refine ⟨by omega, ⟨init ++ [last / m], seed, n + 1⟩, by simp [Dk.D], by simp [Dk.ok]; omega, Int.emod_nonneg _ (by omega), Int.emod_lt_of_pos _ hm⟩
        · simp
          exact ⟨⟨init, seed, n + 1⟩, rfl, by simp [Dk.ok]; omega⟩
    · simp
      exact ⟨⟨cs, seed, n + 1⟩, rfl, hd⟩
  · rintro fl ρ ⟨d', c, rfl, hd', rfl | ⟨i, rfl, h1, h2⟩⟩
    · obtain ⟨cs, seed, n⟩ := d'
      have e : Dk.D ⟨cs, seed, n⟩ = .lst true [.lst true (cs.map .int), .int seed, .int n] := rfl
      rw [e]
      simp [hm]
      refine ⟨by omega, Int.emod_nonneg _ (by omega), Int.emod_lt_of_pos _ hm, ⟨_, _, _⟩, hd', rfl⟩
    · simp
      exact ⟨h1, h2, d', hd', rfl⟩
end Mini
set_option linter.all false
set_option maxRecDepth 100000
namespace Mini
open PySem L2
def DeckS (F : List Mini.D → Cr) : Prop := ∀ ns : List Int, ns.length ≤ 63 → (F [.scr ns]).S (fun r o => ∃ d, r = Dk.D d ∧ d.ok ∧ o = []) noX
theorem deck_ok {Φ : Phi} : DeckS (rF Φ f_law_deck) := by
  intro ns hn
  refine S_def rfl ?_
  have e : cutD ns none (some 63) = ns := by rw [cutD_lit]; exact List.take_of_length_le hn
  have hl : ns.length < 16777216 := by omega
  simp [f_law_deck, CF.start, zipIdxD_map, sizeLine_eq, e, hl, -cutD_lit]
  refine lcX_pure (fun p : Int × Nat => D.raw [.int p.2, .int p.1]) (fun _ => true) (fun p => .int (p.1 % 1000003 * (p.2 + 1))) _ ?_ ?_
  · rintro ⟨c, k⟩ _
    simp
    omega
  · simp
    exact ⟨⟨ns.reverse, _, _⟩, by rw [Dk.D]; simp only [List.map_reverse]; rfl, by simp [Dk.ok]; omega⟩
def TurnedS (F : List Mini.D → Cr) : Prop := ∀ (d : Dk) (n : Nat), d.ok → n ≤ 1000 → (F [d.D, .int n]).S (fun r o => ∃ (p : List Nat) (d' : Dk), r = .lst false (p.map fun i : Nat => D.int i) ∧ p.Perm (List.range n) ∧ d'.ok ∧ o = [d'.D]) noX
theorem turned_ok {Φ : Phi} {f : Nat} (hd : DrawS (Φ f)) : TurnedS (rF Φ (f_law_turned f)) := by
  intro d n hd0 hn
  refine S_def rfl ?_
  have hl : n < 16777216 := by omega
  have h1 : (n : Int) ≤ 1000000 := by omega
  have h2 : (-1000000 : Int) ≤ n := by omega
  have h3 : (-4611686018427387904 : Int) ≤ n := by omega
  have h4 : (n : Int) < 4611686018427387904 := by omega
  simp [f_law_turned, CF.start, sizeLine_eq, hl, h1, h2, h3, h4]
  refine lcX_rest (fun xs acc ρ => ∃ (left p : List Nat) (d : Dk), xs.length = left.length ∧ (∀ x ∈ xs, x.pure = true) ∧ acc = p.map (fun i : Nat => Mini.D.int i) ∧ (p ++ left).Perm (List.range n) ∧ d.ok ∧ ρ = [some d.D, some (.int n), some (.lst true (left.map fun i : Nat => Mini.D.int i)), none]) _ _ _ ⟨List.range n, [], d, by simp, by simp [rangeD], rfl, by simp, hd0, by simp [rangeD]⟩ ?_ ?_
  · rintro x r acc ρ ⟨left, p, d, h1, h2, rfl, h4, h5, rfl⟩
    have hx : x.pure = true := h2 x (by simp)
    have hlen : 0 < left.length := by rw [← h1]; simp
    have hlen2 : left.length ≤ n := by have := h4.length_eq; simp at this; omega
    simp
    refine Cr.S_use (hd d _ h5 (by omega) (by omega)) ?_
    rintro _ _ ⟨i, d', rfl, i1, i2, i3, rfl⟩
    have e : ixN left.length i = some i.toNat := ixN_of i1 (by omega)
    have e2 : i.toNat < left.length := by omega
    simp [fPopAt_lst, e, e2, hx]
    refine ⟨left.eraseIdx i.toNat, ?_, fun x hx => h2 x (by simp [hx]), p ++ [left[i.toNat]], by simp, ?_, d', i3, rfl, ?_⟩
    · rw [List.length_eraseIdx_of_lt e2]; simp at h1; omega
    · refine List.Perm.trans ?_ h4
      rw [List.append_assoc]
      refine List.Perm.append_left p ?_
      exact perm_eraseIdx left _ e2
    · rw [map_eraseIdx']
  · rintro acc ρ ⟨left, p, d, h1, h2, rfl, h4, h5, rfl⟩
    have : left = [] := by simpa using h1.symm
    subst this
    simp
    exact ⟨p, rfl, by simpa using h4, d, h5, rfl⟩
end Mini
set_option linter.all false
set_option maxRecDepth 100000
namespace Mini
open PySem L2
theorem condK_i {b : Bool} {p q : Prop} (h : b = true → p) (h2 : b = false → q) : condK b p q := ⟨h, h2⟩
/-- a truth, nothing changed -/
def PB (Φ : Phi) (e : CE) (ρ : Env) : Prop := (dE Φ e ρ).S (fun x ρ' => ρ' = ρ ∧ ∃ b, x.d = .bl b) noX
theorem ifs_any {Φ : Phi} {e : CE} {a b : CS} {ρ : Env} {Q : Fl → Env → Prop} {X : Ex → Env → Prop} (h : PB Φ e ρ) (ha : (dS Φ a ρ).S Q X) (hb : (dS Φ b ρ).S Q X) : (dS Φ (.ifs e a b) ρ).S Q X := by
  rw [SS_ifs]
  refine Rx.S_mono h ?_ (fun _ _ z => z.elim)
  rintro x ρ' ⟨rfl, b, e⟩
  rw [e]
  simp only [asB_bl, optK_some]
  exact ⟨fun _ => ha, fun _ => hb⟩
def prR (p : Nat × Nat) : Mini.D := .raw [.int p.1, .int p.2]
@[simp] theorem frz_prR {p : Nat × Nat} : (prR p).frz = prR p := rfl
@[simp] theorem pure_prR {p : Nat × Nat} : (prR p).pure = true := rfl
@[simp] theorem pures_prR {l : List (Nat × Nat)} : D.pures (l.map prR) = true := pures_rawf
@[simp] theorem frzs_prR {l : List (Nat × Nat)} : D.frzs (l.map prR) = l.map prR := frzs_rawf
theorem shaped_raw2 {i j : Int} : shp (D.raw [.int i, .int j]).py = true := by
  simp [D.py, D.pys, shp, PyData.plain, PyData.plainAll, PyData.depth, PyData.depthAll]
@[simp] theorem eqD_raw2 {i j k l : Int} : eqD (.raw [.int i, .int j]) (.raw [.int k, .int l]) = some (decide (i = k) && decide (j = l)) := by
  simp only [eqD, shaped_raw2, Bool.and_self, if_true]
  simp [D.py, D.pys, PyData.eqv, PyData.eqvAll]
  rfl
def ShP (n : Nat) (ps : List (Nat × Nat)) : Prop := ∀ p ∈ ps, p.1 < p.2 ∧ p.2 < n
def ShapeS (F : List Mini.D → Cr) : Prop := ∀ (d : Dk) (way : Int) (n : Nat), d.ok → n ≤ 100 → (F [d.D, .int way, .int n]).S (fun r o => ∃ (ps : List (Nat × Nat)) (d' : Dk), r = .lst false (ps.map prR) ∧ ShP n ps ∧ ps.length ≤ 60000 ∧ d'.ok ∧ o = [d'.D]) noX
def ShJ (way : Int) (n : Nat) (cut wide : Int) (L k : Nat) (tl : List (Option Mini.D)) (ρ : Env) : Prop := ∃ (ps : List (Nat × Nat)) (d : Dk), d.ok ∧ ShP n ps ∧ ps.length ≤ L ∧ ρ = some d.D :: some (.int way) :: some (.int n) :: some (.int cut) :: some (.int wide) :: some (.lst true (ps.map prR)) :: tl
theorem shape_ok {Φ : Phi} {f : Nat} (hd : DrawS (Φ f)) : ShapeS (rF Φ (f_law_shape f)) := by
  intro d way n hd0 hn
  refine S_def rfl ?_
  simp [f_law_shape, CF.start]
  refine Cr.S_use (hd d _ hd0 (by omega) (by omega)) ?_
  rintro _ _ ⟨cut, d, rfl, c1, c2, hd0, rfl⟩
  simp
  refine Cr.S_use (hd d _ hd0 (by omega) (by omega)) ?_
  rintro _ _ ⟨wide, d, rfl, w1, w2, hd0, rfl⟩
  simp
  refine ⟨by omega, ?_⟩
  refine forX_range 0 n (fun k ρ => ShJ way n cut (2 + wide) (600 * k) k [none, none, none] ρ) ⟨[], d, hd0, by simp [ShP], by simp, by simp⟩ ?_ ?_
  · rintro k ρ hk ⟨ps, d, hd0, h1, h2, rfl⟩
    simp
    refine Cr.S_use (hd d _ hd0 (by split <;> omega) (by split <;> omega)) ?_
    rintro _ _ ⟨tree, d, rfl, t1, t2, hd0, rfl⟩
    simp
    refine ⟨by omega, ?_⟩
    refine forX_range 0 k (fun i ρ => ShJ way n cut (2 + wide) (600 * k + 6 * i) k [some (.int k), some (.int tree), none] ρ) ⟨ps, d, hd0, h1, by omega, by simp⟩ ?_ ?_
    · rintro i ρ hi ⟨ps, d, hd0, h1, h2, rfl⟩
      simp
      have tw : (0 : Int) < 2 + wide := by omega
      have app : ∀ (L : Nat) (ps : List (Nat × Nat)) (d : Dk), d.ok → ShP n ps → ps.length ≤ L → L < 1000000 →
        (dS Φ ((CS.ex (CE.mth (CP.var 5) Mt.append (CEs.cons (CE.rtup (CEs.cons (CE.var 8) (CEs.cons (CE.var 6) CEs.nil))) CEs.nil))).seq CS.skip) [some d.D, some (.int way), some (.int n), some (.int cut), some (.int (2 + wide)), some (.lst true (ps.map prR)), some (.int k), some (.int tree), some (.int i)]).S (fun fl ρ => fl = .next ∧ ShJ way n cut (2 + wide) (L + 1) k [some (.int k), some (.int tree), some (.int i)] ρ) noX := by
        intro L ps d hd0 h1 h2 h3
        simp [sizeLine_eq]
        refine ⟨by omega, ps ++ [(i, k)], d, hd0, ?_, by simp; omega, by simp [prR]⟩
        intro p hp
        simp at hp
        rcases hp with hp | rfl
        · exact h1 p hp
        · exact ⟨hi, hk⟩
      have app' : ∀ (L : Nat) (ps : List (Nat × Nat)) (d : Dk), d.ok → ShP n ps → ps.length ≤ L → L < 1000000 → ps.length < sizeLine ∧ ShJ way n cut (2 + wide) (L + 1) k [some (.int k), some (.int tree), some (.int i)] [some d.D, some (.int way), some (.int n), some (.int cut), some (.int (2 + wide)), some (.lst true (ps.map prR ++ [.raw [.int i, .int k]])), some (.int k), some (.int tree), some (.int i)] := by
        intro L ps d hd0 h1 h2 h3
        refine ⟨by rw [sizeLine_eq]; omega, ps ++ [(i, k)], d, hd0, ?_, by simp; omega, by simp [prR]⟩
        intro p hp
        simp at hp
        rcases hp with hp | rfl
        · exact h1 p hp
        · exact ⟨hi, hk⟩
      have nop' : ∀ (L : Nat) (ps : List (Nat × Nat)) (d : Dk), d.ok → ShP n ps → ps.length ≤ L → ShJ way n cut (2 + wide) (L + 1) k [some (.int k), some (.int tree), some (.int i)] [some d.D, some (.int way), some (.int n), some (.int cut), some (.int (2 + wide)), some (.lst true (ps.map prR)), some (.int k), some (.int tree), some (.int i)] := fun L ps d h1 h2 h3 => ⟨ps, d, h1, h2, by omega, rfl⟩
      have nop : ∀ (L : Nat) (ps : List (Nat × Nat)) (d : Dk), d.ok → ShP n ps → ps.length ≤ L →
        (dS Φ CS.skip [some d.D, some (.int way), some (.int n), some (.int cut), some (.int (2 + wide)), some (.lst true (ps.map prR)), some (.int k), some (.int tree), some (.int i)]).S (fun fl ρ => fl = .next ∧ ShJ way n cut (2 + wide) (L + 1) k [some (.int k), some (.int tree), some (.int i)] ρ) noX := by
        intro L ps d hd0 h1 h2
        simp
        exact ⟨ps, d, hd0, h1, by omega, rfl⟩
      refine Rx.S_mid (fun fl ρ => fl = .next ∧ ShJ way n cut (2 + wide) (600 * k + 6 * i + 1) k [some (.int k), some (.int tree), some (.int i)] ρ) ?_ ?_
      · rw [SS_ifs]
        simp
        refine condK_i (fun _ => ?_) (fun _ => ?_)
        · simp
          refine Cr.S_use (hd d _ hd0 (by omega) (by omega)) ?_
          rintro _ _ ⟨i4, d, rfl, t1, t2, hd0, rfl⟩
          simp
          exact condK_i (fun _ => app _ ps d hd0 h1 h2 (by omega)) (fun _ => nop _ ps d hd0 h1 h2)
        · simp
          exact ⟨ps, d, hd0, h1, by omega, rfl⟩
      rintro _ ρ ⟨rfl, ps, d, hd0, h1, h2, rfl⟩
      simp
      refine Rx.S_mid (fun fl ρ => fl = .next ∧ ShJ way n cut (2 + wide) (600 * k + 6 * i + 2) k [some (.int k), some (.int tree), some (.int i)] ρ) ?_ ?_
      · rw [SS_ifs]
        simp [tw]
        repeat' (first | with_reducible refine condK_i (fun _ => ?_) (fun _ => ?_) | with_reducible exact app _ ps d hd0 h1 h2 (by omega) | with_reducible exact nop _ ps d hd0 h1 h2 | with_reducible exact app' _ ps d hd0 h1 h2 (by omega) | with_reducible exact nop' _ ps d hd0 h1 h2 | simp [tw])
      rintro _ ρ ⟨rfl, ps, d, hd0, h1, h2, rfl⟩
      simp
      refine Rx.S_mid (fun fl ρ => fl = .next ∧ ShJ way n cut (2 + wide) (600 * k + 6 * i + 3) k [some (.int k), some (.int tree), some (.int i)] ρ) ?_ ?_
      · rw [SS_ifs]
        simp [tw]
        repeat' (first | with_reducible refine condK_i (fun _ => ?_) (fun _ => ?_) | with_reducible exact app _ ps d hd0 h1 h2 (by omega) | with_reducible exact nop _ ps d hd0 h1 h2 | with_reducible exact app' _ ps d hd0 h1 h2 (by omega) | with_reducible exact nop' _ ps d hd0 h1 h2 | simp [tw])
      rintro _ ρ ⟨rfl, ps, d, hd0, h1, h2, rfl⟩
      simp
      refine Rx.S_mid (fun fl ρ => fl = .next ∧ ShJ way n cut (2 + wide) (600 * k + 6 * i + 4) k [some (.int k), some (.int tree), some (.int i)] ρ) ?_ ?_
      · rw [SS_ifs]
        simp [tw]
        repeat' (first | with_reducible refine condK_i (fun _ => ?_) (fun _ => ?_) | with_reducible exact app _ ps d hd0 h1 h2 (by omega) | with_reducible exact nop _ ps d hd0 h1 h2 | with_reducible exact app' _ ps d hd0 h1 h2 (by omega) | with_reducible exact nop' _ ps d hd0 h1 h2 | simp [tw])
      rintro _ ρ ⟨rfl, ps, d, hd0, h1, h2, rfl⟩
      simp
      refine Rx.S_mid (fun fl ρ => fl = .next ∧ ShJ way n cut (2 + wide) (600 * k + 6 * i + 5) k [some (.int k), some (.int tree), some (.int i)] ρ) ?_ ?_
      · rw [SS_ifs]
        simp [tw]
        repeat' (first | with_reducible refine condK_i (fun _ => ?_) (fun _ => ?_) | with_reducible exact app _ ps d hd0 h1 h2 (by omega) | with_reducible exact nop _ ps d hd0 h1 h2 | with_reducible exact app' _ ps d hd0 h1 h2 (by omega) | with_reducible exact nop' _ ps d hd0 h1 h2 | simp [tw])
      rintro _ ρ ⟨rfl, ps, d, hd0, h1, h2, rfl⟩
      simp
      refine Rx.S_mid (fun fl ρ => fl = .next ∧ ShJ way n cut (2 + wide) (600 * k + 6 * i + 6) k [some (.int k), some (.int tree), some (.int i)] ρ) ?_ ?_
      · rw [SS_ifs]
        simp [tw]
        repeat' (first | with_reducible refine condK_i (fun _ => ?_) (fun _ => ?_) | with_reducible exact app _ ps d hd0 h1 h2 (by omega) | with_reducible exact nop _ ps d hd0 h1 h2 | with_reducible exact app' _ ps d hd0 h1 h2 (by omega) | with_reducible exact nop' _ ps d hd0 h1 h2 | simp [tw])
      rintro _ ρ ⟨rfl, ps, d, hd0, h1, h2, rfl⟩
      simp
      exact ⟨ps, d, hd0, h1, by omega, rfl⟩
    · rintro ρ ⟨ps, d, hd0, h1, h2, rfl⟩
      simp
      exact ⟨ps, d, hd0, h1, by omega, rfl⟩
  · rintro ρ ⟨ps, d, hd0, h1, h2, rfl⟩
    simp
    exact ⟨ps, rfl, h1, by omega, d, hd0, rfl⟩
end Mini
set_option linter.all false
set_option maxRecDepth 100000
namespace Mini
open PySem L2
/-! sorting -/
theorem lexLt_irrefl : ∀ a : List Int, HT.lexLt a a = false
  | [] => rfl
  | x :: xs => by simp [HT.lexLt_cons, lexLt_irrefl xs]
theorem lexLt_trans : ∀ {a b c : List Int}, HT.lexLt a b = true → HT.lexLt b c = true → HT.lexLt a c = true
  | [], [], _, h, _ => by simp [HT.lexLt_nil_nil] at h
  | [], _ :: _, [], _, h => by simp [HT.lexLt] at h
  | [], _ :: _, _ :: _, _, _ => rfl
  | _ :: _, [], _, h, _ => by simp [HT.lexLt] at h
  | _ :: _, _ :: _, [], _, h => by simp [HT.lexLt] at h
  | x :: xs, y :: ys, z :: zs, h1, h2 => by
    simp only [HT.lexLt_cons] at *
    split at h1 <;> split at h2
    · subst_vars; simp; exact lexLt_trans h1 h2
    · subst_vars; rename_i h; simp [h]; simpa using h2
    · subst_vars; rename_i h; simp [h]; simpa using h1
    · have h1 : x < y := by simpa using h1
      have h2 : y < z := by simpa using h2
      rw [if_neg (by omega)]; simp; omega
theorem lexLt_total : ∀ {a b : List Int}, HT.lexLt a b = false → HT.lexLt b a = false → a = b
  | [], [], _, _ => rfl
  | [], _ :: _, h, _ => by simp [HT.lexLt] at h
  | _ :: _, [], _, h => by simp [HT.lexLt] at h
  | x :: xs, y :: ys, h1, h2 => by
    simp only [HT.lexLt_cons] at *
    split at h1
    · subst_vars; simp at h2; rw [lexLt_total h1 h2]
    · rename_i h
      rw [if_neg (Ne.symm h)] at h2
      simp at h1 h2; omega
theorem pInsR (a : List Int) : ∀ l, (insR a l).Perm (a :: l)
  | [] => List.Perm.refl _
  | b :: bs => by
    unfold insR
    split
    · exact ((pInsR a bs).cons b).trans (List.Perm.swap _ _ _)
    · exact List.Perm.refl _
theorem pSortR : ∀ l, (sortR l).Perm l
  | [] => List.Perm.refl _
  | a :: l => (pInsR a _).trans ((pSortR l).cons a)
/-- rising -/
def LtR (a b : List Int) : Prop := HT.lexLt a b = true
theorem insR_sorted {a : List Int} : ∀ {l : List (List Int)}, l.Pairwise LtR → a ∉ l → (insR a l).Pairwise LtR
  | [], _, _ => by simp [insR]
  | b :: bs, h, hn => by
    unfold insR
    rw [List.pairwise_cons] at h
    simp only [List.mem_cons, not_or] at hn
    split
    · rename_i hb
      rw [List.pairwise_cons]
      refine ⟨fun c hc => ?_, insR_sorted h.2 hn.2⟩
      have := (pInsR a bs).mem_iff.mp hc
      rcases List.mem_cons.mp this with rfl | hc
      · exact hb
      · exact h.1 c hc
    · rename_i hb
      have hab : LtR a b := by
        cases q : HT.lexLt a b with
        | true => exact q
        | false => exact absurd (lexLt_total q (by simpa using hb)) hn.1
      rw [List.pairwise_cons]
      refine ⟨fun c hc => ?_, List.pairwise_cons.mpr h⟩
      rcases List.mem_cons.mp hc with rfl | hc
      · exact hab
      · exact lexLt_trans hab (h.1 c hc)
theorem sortR_sorted : ∀ {l : List (List Int)}, l.Nodup → (sortR l).Pairwise LtR
  | [], _ => List.Pairwise.nil
  | a :: l, h => by
    rw [List.nodup_cons] at h
    exact insR_sorted (sortR_sorted h.2) (fun q => h.1 ((pSortR l).mem_iff.mp q))
/-! webs -/
/-- a pair of places, told as a tuple of one of both makes -/
structure Pr where
  raw : Bool
  i : Nat
  k : Nat
def Pr.D (p : Pr) : Mini.D := if p.raw then .raw [.int p.i, .int p.k] else .tup [.int p.i, .int p.k]
@[simp] theorem Pr.pure_D {p : Pr} : p.D.pure = true := by unfold Pr.D; split <;> rfl
@[simp] theorem Pr.pures_D {l : List Pr} : D.pures (l.map Pr.D) = true := pures_iff.mpr (by simp)
@[simp] theorem Pr.frzs_D {l : List Pr} : D.frzs (l.map Pr.D) = l.map Pr.D := frzs_of_pures Pr.pures_D
@[simp] theorem Pr.items_D {p : Pr} : tupItems p.D = some [.int p.i, .int p.k] := by unfold Pr.D; split <;> rfl
structure Web where
  n : Nat
  cells : List (Nat × Nat)
def cellD (p : Nat × Nat) : Mini.D := .raw [.int p.1, .int p.2]
@[simp] theorem frz_cellD {p : Nat × Nat} : (cellD p).frz = cellD p := rfl
@[simp] theorem pure_cellD {p : Nat × Nat} : (cellD p).pure = true := rfl
@[simp] theorem pures_cellD {l : List (Nat × Nat)} : D.pures (l.map cellD) = true := pures_rawf
@[simp] theorem frzs_cellD {l : List (Nat × Nat)} : D.frzs (l.map cellD) = l.map cellD := frzs_rawf
@[simp] theorem items_cellD {p : Nat × Nat} : tupItems (cellD p) = some [.int p.1, .int p.2] := rfl
def Web.D (w : Web) : Mini.D := .tup [.int w.n, .tup (w.cells.map cellD)]
@[simp] theorem Web.pure_D {w : Web} : w.D.pure = true := rfl
def Web.adj (w : Web) (i k : Nat) : Prop := (i, k) ∈ w.cells
instance {w : Web} {i k : Nat} : Decidable (w.adj i k) := inferInstanceAs (Decidable ((i, k) ∈ w.cells))
def ltP (a b : Nat × Nat) : Prop := a.1 < b.1 ∨ (a.1 = b.1 ∧ a.2 < b.2)
structure Web.ok (w : Web) : Prop where
  pos : 1 ≤ w.n
  le : w.n ≤ 100
  rng : ∀ i k, (i, k) ∈ w.cells → i < w.n ∧ k < w.n ∧ i ≠ k
  symm : ∀ i k, (i, k) ∈ w.cells → (k, i) ∈ w.cells
  ris : w.cells.Pairwise ltP
  len : w.cells.length ≤ 1000000
/-! dicts of pairs -/
def keyP (p : Nat × Nat) : List Key := [.inl p.1, .inl p.2]
theorem keyP_inj {p q : Nat × Nat} (h : keyP p = keyP q) : p = q := by
  simp [keyP] at h
  exact Prod.ext (by omega) (by omega)
def pdD (m : Bool) (ks : List (Nat × Nat)) : Mini.D := .dT m (ks.map keyP) (List.replicate ks.length (.bl true))
@[simp] theorem frz_pdD {m : Bool} {ks : List (Nat × Nat)} : (pdD m ks).frz = pdD false ks := by
  cases m
  · rfl
  · simp [pdD]
    rw [frzs_pures]; simp
@[simp] theorem pure_pdD {m : Bool} {ks : List (Nat × Nat)} : (pdD m ks).pure = !m := rfl
def addP (ks : List (Nat × Nat)) (p : Nat × Nat) : List (Nat × Nat) := if p ∈ ks then ks else ks ++ [p]
theorem setK_rep {κ : Type} [DecidableEq κ] {y : Mini.D} : ∀ (ks : List κ) (k : κ), setK ks (List.replicate ks.length y) k y = List.replicate ks.length y
  | [], _ => rfl
  | a :: ks, k => by
    simp only [List.length_cons, List.replicate_succ, setK]
    split
    · rfl
    · rw [setK_rep ks k]
theorem mem_keyP {ks : List (Nat × Nat)} {p : Nat × Nat} : keyP p ∈ ks.map keyP ↔ p ∈ ks := by
  rw [List.mem_map]
  exact ⟨fun ⟨q, h, e⟩ => keyP_inj e ▸ h, fun h => ⟨p, h, rfl⟩⟩
theorem putT_pd {ks : List (Nat × Nat)} {p : Nat × Nat} : putT (ks.map keyP, List.replicate ks.length (.bl true)) (keyP p, Mini.D.bl true) = ((addP ks p).map keyP, List.replicate (addP ks p).length (.bl true)) := by
  unfold putT addP
  simp only [mem_keyP]
  split
  · have := setK_rep (y := Mini.D.bl true) (ks.map keyP) (keyP p)
    rw [List.length_map] at this
    rw [this]
  · simp [List.replicate_succ']
@[simp] theorem fSet_pd {ks : List (Nat × Nat)} {i k : Nat} : fSetIx (.raw [.int i, .int k]) (.bl true) (pdD true ks) = if ks.length < sizeLine then some (.non, pdD true (addP ks (i, k))) else none := by
  have e : keyTOf (.raw [.int i, .int k]) = some (keyP (i, k)) := rfl
  show (keyTOf (.raw [.int i, .int k])).bind (fun key => if (ks.map keyP).length < sizeLine then some (Mini.D.non, Mini.D.dT true (putT (ks.map keyP, List.replicate ks.length (.bl true)) (key, Mini.D.bl true)).1 (putT (ks.map keyP, List.replicate ks.length (.bl true)) (key, Mini.D.bl true)).2) else none) = _
  rw [e, Option.bind_some, putT_pd, List.length_map]
  rfl
theorem addP_length {ks : List (Nat × Nat)} {p : Nat × Nat} : (addP ks p).length ≤ ks.length + 1 := by unfold addP; split <;> simp
theorem mem_addP {ks : List (Nat × Nat)} {p q : Nat × Nat} : q ∈ addP ks p ↔ q ∈ ks ∨ q = p := by
  unfold addP
  split
  · rename_i h
    exact ⟨Or.inl, fun z => z.elim id fun e => e ▸ h⟩
  · simp
theorem nodup_addP {ks : List (Nat × Nat)} {p : Nat × Nat} (h : ks.Nodup) : (addP ks p).Nodup := by
  unfold addP
  split
  · exact h
  · rename_i h2
    rw [List.nodup_append]
    exact ⟨h, by simp, by intro a ha b hb; simp at hb; subst hb; intro e; exact h2 (e ▸ ha)⟩
/-- the keys of such a dict, sorted -/
def rowP (p : Nat × Nat) : List Int := [p.1, p.2]
theorem rowP_inj {p q : Nat × Nat} (h : rowP p = rowP q) : p = q := by
  simp [rowP] at h
  exact Prod.ext (by omega) (by omega)
theorem keysRows_P : ∀ ks : List (Nat × Nat), keysRows (ks.map keyP) = some (ks.map rowP)
  | [] => rfl
  | k :: ks => by simp [keysRows, keysInt, keyP, keyInt, keysRows_P ks, rowP]
theorem sorted_pd {m : Bool} {ks : List (Nat × Nat)} (h : ks.Nodup) : ∃ cs : List (Nat × Nat), sortedD (pdD m ks) = some (.lst true (cs.map cellD)) ∧ cs.Perm ks ∧ cs.Pairwise ltP := by
  obtain ⟨cs, e, hp⟩ : ∃ cs : List (Nat × Nat), sortR (ks.map rowP) = cs.map rowP ∧ cs.Perm ks := by
    have hp := pSortR (ks.map rowP)
    have : ∀ r ∈ sortR (ks.map rowP), ∃ p : Nat × Nat, rowP p = r := fun r hr => by
      have := hp.mem_iff.mp hr
      obtain ⟨p, _, e⟩ := List.mem_map.mp this
      exact ⟨p, e⟩
    have ex : ∀ l : List (List Int), (∀ r ∈ l, ∃ p : Nat × Nat, rowP p = r) → ∃ cs : List (Nat × Nat), l = cs.map rowP := by
      intro l
      induction l with
      | nil => exact fun _ => ⟨[], rfl⟩
      | cons a l ih =>
        intro h
        obtain ⟨p, e⟩ := h a (by simp)
        obtain ⟨cs, e2⟩ := ih fun r hr => h r (by simp [hr])
        exact ⟨p :: cs, by simp [e, e2]⟩
    obtain ⟨cs, e⟩ := ex _ this
    rw [e] at hp
    have un : ∀ l : List (Nat × Nat), (l.map rowP).map (fun r => (((r.getD 0 0).toNat, (r.getD 1 0).toNat) : Nat × Nat)) = l := fun l => by
      rw [List.map_map]
      conv => rhs; rw [← List.map_id l]
      exact List.map_congr_left fun x _ => by simp [rowP]
    have hp2 := hp.map (fun r => (((r.getD 0 0).toNat, (r.getD 1 0).toNat) : Nat × Nat))
    rw [un, un] at hp2
    exact ⟨cs, e, hp2⟩
  refine ⟨cs, ?_, hp, ?_⟩
  · have : sortedD (pdD m ks) = (keysRows (ks.map keyP)).bind fun rs => if rs.all (fun r => !r.isEmpty) then some (Mini.D.lst true ((sortR rs).map rowRaw)) else none := by cases m <;> rfl
    rw [this, keysRows_P, Option.bind_some, e, if_pos (by simp [rowP])]
    simp [rowRaw, rowP, cellD]
  · have hs : (sortR (ks.map rowP)).Pairwise LtR := sortR_sorted (by
      rw [List.Nodup, List.pairwise_map]
      exact h.imp fun hne e => hne (rowP_inj e))
    rw [e, List.pairwise_map] at hs
    refine hs.imp ?_
    rintro ⟨a, b⟩ ⟨c, d⟩ hl
    simp only [LtR, rowP, HT.lexLt_cons] at hl
    unfold ltP
    by_cases h1 : (a : Int) = c
    · rw [if_pos h1] at hl
      by_cases h2 : (b : Int) = d
      · rw [if_pos h2] at hl; simp [HT.lexLt] at hl
      · rw [if_neg h2] at hl
        have : (b : Int) < d := by simpa using hl
        exact Or.inr ⟨by omega, by omega⟩
    · rw [if_neg h1] at hl
      have : (a : Int) < c := by simpa using hl
      exact Or.inl (by omega)
@[simp] theorem b1_sorted {d : Mini.D} : b1D .sorted d = sortedD d := rfl
def WebOfS (F : List Mini.D → Cr) : Prop := ∀ (n : Nat) (ps : List Pr), ps.length ≤ 1000000 → (F [.int n, .lst false (ps.map Pr.D)]).S (fun r o => ∃ w : Web, r = w.D ∧ w.n = n ∧ (∀ i k, (i, k) ∈ w.cells ↔ ∃ p ∈ ps, (p.i = i ∧ p.k = k) ∨ (p.i = k ∧ p.k = i)) ∧ w.cells.Pairwise ltP ∧ w.cells.length ≤ 2 * ps.length ∧ o = []) noX
theorem webOf_ok {Φ : Phi} : WebOfS (rF Φ f_law_web_of) := by
  intro n ps hn
  refine S_def rfl ?_
  simp [f_law_web_of, CF.start]
  refine forX_done Pr.D ps (fun done ρ => ∃ ks : List (Nat × Nat), ρ = [some (.int n), some (.lst false (ps.map Pr.D)), some (pdD true ks), none, none] ∧ ks.Nodup ∧ ks.length ≤ 2 * done.length ∧ ∀ i k, (i, k) ∈ ks ↔ ∃ p ∈ done, (p.i = i ∧ p.k = k) ∨ (p.i = k ∧ p.k = i)) ⟨[], rfl, by simp, by simp, by simp⟩ ?_ ?_
  · rintro done p rest ρ e ⟨ks, rfl, h1, h2, h3⟩
    have hl : done.length + rest.length + 1 = ps.length := by rw [e]; simp; omega
    have hk : ks.length < 16777216 := by omega
    have hk2 := addP_length (ks := ks) (p := (p.i, p.k))
    have hk3 : (addP ks (p.i, p.k)).length < 16777216 := by omega
    simp [hk, hk3, sizeLine_eq]
    refine ⟨addP (addP ks (p.i, p.k)) (p.k, p.i), rfl, nodup_addP (nodup_addP h1), ?_, ?_⟩
    · have := addP_length (ks := addP ks (p.i, p.k)) (p := (p.k, p.i))
      omega
    · intro i k
      rw [mem_addP, mem_addP, h3]
      simp only [Prod.mk.injEq]
      constructor
      · rintro ((⟨q, hq, h⟩ | ⟨rfl, rfl⟩) | ⟨rfl, rfl⟩)
        · exact Or.inl ⟨q, hq, h⟩
        · exact Or.inr (Or.inl ⟨rfl, rfl⟩)
        · exact Or.inr (Or.inr ⟨rfl, rfl⟩)
      · rintro (⟨q, hq, h⟩ | ⟨rfl, rfl⟩ | ⟨rfl, rfl⟩)
        · exact Or.inl (Or.inl ⟨q, hq, h⟩)
        · exact Or.inl (Or.inr ⟨rfl, rfl⟩)
        · exact Or.inr ⟨rfl, rfl⟩
  · rintro ρ ⟨ks, rfl, h1, h2, h3⟩
    obtain ⟨cs, e, hp, hs⟩ := sorted_pd (m := true) h1
    simp [e]
    exact ⟨⟨n, cs⟩, rfl, rfl, fun i k => by rw [hp.mem_iff, h3], hs, by rw [hp.length_eq]; exact h2⟩
end Mini
set_option linter.all false
set_option maxRecDepth 100000
namespace Mini
open PySem L2
@[simp] theorem prR_key {p : Nat × Nat} : keyTOf (prR p) = some (keyP p) := rfl
theorem pairsT_P : ∀ ps : List (Nat × Nat), pairsT (ps.map fun p => Mini.D.tup [prR p, .bl true]) = some (ps.map fun p => (keyP p, Mini.D.bl true))
  | [] => rfl
  | p :: ps => by simp [pairsT, pairsT_P ps]
theorem fold_P : ∀ (ps ks : List (Nat × Nat)), (ps.map fun p => (keyP p, Mini.D.bl true)).foldl putT (ks.map keyP, List.replicate ks.length (.bl true)) = ((ps.foldl addP ks).map keyP, List.replicate (ps.foldl addP ks).length (.bl true))
  | [], ks => rfl
  | p :: ps, ks => by
    rw [List.map_cons, List.foldl_cons, putT_pd, fold_P ps, List.foldl_cons]
@[simp] theorem b1_dict {m : Bool} {ps : List (Nat × Nat)} : b1D .dictT (.lst m (ps.map fun p => Mini.D.tup [prR p, .bl true])) = some (pdD true (ps.foldl addP [])) := by
  have : b1D .dictT (.lst m (ps.map fun p => Mini.D.tup [prR p, .bl true])) = (pairsT (ps.map fun p => Mini.D.tup [prR p, .bl true])).map fun ps => .dT true (ps.foldl putT ([], [])).1 (ps.foldl putT ([], [])).2 := by cases m <;> rfl
  rw [this, pairsT_P, Option.map_some]
  have := fold_P ps []
  simp only [List.map_nil, List.length_nil, List.replicate_zero] at this
  rw [this]
  rfl
theorem foldAdd_nodup : ∀ (ps ks : List (Nat × Nat)), ks.Nodup → (ps.foldl addP ks).Nodup
  | [], ks, h => h
  | p :: ps, ks, h => foldAdd_nodup ps _ (nodup_addP h)
theorem foldAdd_mem : ∀ (ps ks : List (Nat × Nat)) (q : Nat × Nat), q ∈ ps.foldl addP ks ↔ q ∈ ks ∨ q ∈ ps
  | [], ks, q => by simp
  | p :: ps, ks, q => by
    rw [List.foldl_cons, foldAdd_mem ps, mem_addP]
    simp [or_assoc]
theorem foldAdd_length : ∀ (ps ks : List (Nat × Nat)), (ps.foldl addP ks).length ≤ ks.length + ps.length
  | [], ks => by simp
  | p :: ps, ks => by
    rw [List.foldl_cons]
    have := foldAdd_length ps (addP ks p)
    have := addP_length (ks := ks) (p := p)
    simp; omega
theorem lookK_rep {κ : Type} [DecidableEq κ] {y : Mini.D} : ∀ (ks : List κ) (k : κ), lookK ks (List.replicate ks.length y) k = if k ∈ ks then some y else none
  | [], _ => rfl
  | a :: ks, k => by
    simp only [List.length_cons, List.replicate_succ, lookK]
    split
    · rename_i h; subst h; simp
    · rename_i h
      rw [lookK_rep ks k]
      simp [Ne.symm h]
theorem dropKs_rep : ∀ (ks : List (Nat × Nat)) (p : Nat × Nat), dropKs (ks.map keyP) (List.replicate ks.length (Mini.D.bl true)) (keyP p) = ((ks.erase p).map keyP, List.replicate (ks.erase p).length (Mini.D.bl true))
  | [], _ => rfl
  | a :: ks, p => by
    simp only [List.map_cons, List.length_cons, List.replicate_succ, dropKs]
    split
    · rename_i h
      have := keyP_inj h
      subst this
      simp
    · rename_i h
      rw [dropKs_rep ks p]
      have : a ≠ p := fun e => h (by rw [e])
      rw [List.erase_cons_tail (by simpa using this)]
      simp [List.replicate_succ]
@[simp] theorem fDPop_pd {ks : List (Nat × Nat)} {i k : Nat} : fDPop (.raw [.int i, .int k]) (pdD true ks) = some (if (i, k) ∈ ks then (.bl true, pdD true (ks.erase (i, k))) else (.non, pdD true ks)) := by
  have e : keyTOf (.raw [.int i, .int k]) = some (keyP (i, k)) := rfl
  show (keyTOf (.raw [.int i, .int k])).bind (fun key => match lookK (ks.map keyP) (List.replicate ks.length (Mini.D.bl true)) key with
    | some y => if y.pure then some (y, Mini.D.dT true (dropKs (ks.map keyP) (List.replicate ks.length (Mini.D.bl true)) key).1 (dropKs (ks.map keyP) (List.replicate ks.length (Mini.D.bl true)) key).2) else none
    | none => some (.non, Mini.D.dT true (ks.map keyP) (List.replicate ks.length (Mini.D.bl true)))) = _
  rw [e, Option.bind_some]
  have l := lookK_rep (y := Mini.D.bl true) (ks.map keyP) (keyP (i, k))
  rw [List.length_map] at l
  rw [l]
  simp only [mem_keyP]
  split
  · rename_i h
    split at h
    · cases h
      rename_i h2
      rw [if_pos h2, if_pos pure_bl, dropKs_rep]
      rfl
    · cases h
  · rename_i h
    split at h
    · cases h
    · rename_i h2
      rw [if_neg h2]; rfl
@[simp] theorem mtK_pd {ks : List (Nat × Nat)} : mtK .dpop (pdD true ks) = true := rfl
@[simp] theorem keysK_pd {ks : List (Nat × Nat)} {k : List (List Key) → List Mini.D → Prop} : keysK (some (pdD true ks)) k = k (ks.map keyP) (List.replicate ks.length (.bl true)) := by
  show (D.pures (List.replicate ks.length (Mini.D.bl true)) = true ∧ _) = _
  have : D.pures (List.replicate ks.length (Mini.D.bl true)) = true := by rw [pures_iff]; simp
  simp [this]
theorem keysP_raw {ks : List (Nat × Nat)} : (ks.map keyP).map (fun k => Mini.D.raw (k.map keyD)) = ks.map prR := by simp [keyP, keyD, prR, Function.comp_def]
theorem sortI_two {a b : Int} : sortI [a, b] = [min a b, max a b] := by
  simp only [sortI, insI]
  split
  · rw [Int.min_eq_left (by omega), Int.max_eq_right (by omega)]
  · rw [Int.min_eq_right (by omega), Int.max_eq_left (by omega)]
theorem sortedD_ints {m : Bool} {xs : List Mini.D} {ns : List Int} (h : intsOf xs = some ns) : sortedD (.lst m xs) = some (.lst true ((sortI ns).map D.int)) := by
  have : sortedD (.lst m xs) = sortedD.sortedL xs := by cases m <;> rfl
  rw [this, sortedD.sortedL, h]
theorem sortedD_intsT {xs : List Mini.D} {ns : List Int} (h : intsOf xs = some ns) : sortedD (.tup xs) = some (.lst true ((sortI ns).map D.int)) := by
  have : sortedD (.tup xs) = sortedD.sortedL xs := rfl
  rw [this, sortedD.sortedL, h]
@[simp] theorem sortedD_two {m : Bool} {a b : Int} : sortedD (.lst m [.int a, .int b]) = some (.lst true [.int (min a b), .int (max a b)]) := by
  rw [sortedD_ints (ns := [a, b]) rfl, sortI_two]; rfl
def wE (m : Nat) (way g b : Int) (n : Nat) (p : List Nat) (d : Dk) (ks : List (Nat × Nat)) (o8 o9 o10 : Option Mini.D) : Env := [some d.D, some (.int m), some (.int way), some (.int (b2i (decide (g = 5)))), some (.bl (decide (b = 0))), some (.int n), some (.lst false (p.map fun i : Nat => Mini.D.int i)), some (pdD true ks), o8, o9, o10]
def WebJ (m : Nat) (way g b : Int) (n : Nat) (p : List Nat) (L : Nat) (ρ : Env) : Prop := ∃ (ks : List (Nat × Nat)) (d : Dk) (o9 o10 : Option Mini.D), ρ = wE m way g b n p d ks none o9 o10 ∧ (∀ x, o9 = some x → x.pure = true) ∧ d.ok ∧ ks.Nodup ∧ ks.length ≤ L ∧ ShP n ks
def WebS (F : List Mini.D → Cr) : Prop := ∀ (d : Dk) (m : Nat), d.ok → 6 ≤ m → m ≤ 100 → (F [d.D, .int m]).S (fun r o => ∃ (w : Web) (d' : Dk), r = w.D ∧ w.ok ∧ w.n ≤ m ∧ d'.ok ∧ o = [d'.D]) noX
theorem web_ok {Φ : Phi} {fd ft fs fw : Nat} (hd : DrawS (Φ fd)) (ht : TurnedS (Φ ft)) (hs : ShapeS (Φ fs)) (hw : WebOfS (Φ fw)) : WebS (rF Φ (f_law_web fd ft fs fw)) := by
  intro d m hd0 hm6 hm
  refine S_def rfl ?_
  simp [f_law_web, CF.start]
  refine Cr.S_use (hd d _ hd0 (by omega) (by omega)) ?_
  rintro _ _ ⟨way, d, rfl, c1, c2, hd0, rfl⟩
  simp
  refine Cr.S_use (hd d _ hd0 (by omega) (by omega)) ?_
  rintro _ _ ⟨g, d, rfl, _, _, hd0, rfl⟩
  simp
  refine Cr.S_use (hd d _ hd0 (by omega) (by omega)) ?_
  rintro _ _ ⟨b, d, rfl, _, _, hd0, rfl⟩
  simp
  refine Cr.S_use (hd d _ hd0 (by omega) (by omega)) ?_
  rintro _ _ ⟨s, d, rfl, s1, s2, hd0, rfl⟩
  simp
  refine Cr.S_use (hd d _ hd0 (by omega) (by omega)) ?_
  rintro _ _ ⟨t, d, rfl, t1, t2, hd0, rfl⟩
  have many : ∃ n : Nat, 1 ≤ n ∧ n ≤ m ∧ atI [Mini.D.int (1 + s), Mini.D.int (if (1 : Int) < m - t then m - t else 1)] (b2i (decide (g = 5))) = some (.int n) := by
    by_cases h : g = 5
    · refine ⟨(if (1 : Int) < m - t then m - t else 1).toNat, by split <;> omega, by split <;> omega, ?_⟩
      simp [h]
      split <;> omega
    · refine ⟨(1 + s).toNat, by omega, by omega, ?_⟩
      simp [h]; omega
  obtain ⟨n, n1, n2, e⟩ := many
  simp [e, -SS_for]
  refine Cr.S_use (ht d n hd0 (by omega)) ?_
  rintro _ _ ⟨p, d, rfl, hp, hd0, rfl⟩
  have hpl : p.length = n := by simpa using hp.length_eq
  simp [-SS_for]
  refine Cr.S_use (hs d way n hd0 (by omega)) ?_
  rintro _ _ ⟨ps, d, rfl, hps, hpl2, hd0, rfl⟩
  have hps' : ps.length < 16777216 := by omega
  simp [hps', sizeLine_eq, -SS_for]
  refine lcX_map prR (fun q => .tup [prR q, .bl true]) _ (fun q _ => by simp) ?_
  simp [-SS_for]
  refine Rx.S_mid (fun fl ρ => fl = .next ∧ WebJ m way g b n p 100000 ρ) ?_ ?_
  · rw [SS_for]
    have e0 : [some d.D, some (.int m), some (.int way), some (.int (b2i (decide (g = 5)))), some (.bl (decide (b = 0))), some (.int n), some (.lst false (p.map fun i : Nat => Mini.D.int i)), some (pdD true (ps.foldl addP [])), none, none, none] = wE m way g b n p d (ps.foldl addP []) none none none := rfl
    rw [e0]
    refine Rx.S_mid (fun xs ρ' => ρ' = wE m way g b n p d (ps.foldl addP []) none none none ∧ ∃ N : Nat, N ≤ 2 ∧ (0 < N → 1 < n) ∧ xs = ⟨rangeD 0 N, false⟩) ?_ ?_
    · simp [wE]
      refine condK_i (fun _ => ?_) (fun _ => ?_)
      · by_cases h : 1 < n
        · have h' : (1 : Int) < n := by omega
          simp [h, h']
          exact ⟨2, by omega, rfl⟩
        · have h' : ¬ (1 : Int) < n := by omega
          simp [h, h']
          exact ⟨0, by omega, rfl, rfl⟩
      · simp
        exact ⟨0, by omega, by simp, rfl⟩
    · rintro _ _ ⟨rfl, N, hN, hn1, rfl⟩
      simp [wE]
      refine forX_range 0 N (fun i ρ => WebJ m way g b n p (60000 + i) ρ) ⟨ps.foldl addP [], d, none, none, rfl, by simp, hd0, foldAdd_nodup _ _ (by simp), by have := foldAdd_length ps []; simp at this; omega, fun q hq => hps q (by have := (foldAdd_mem ps [] q).mp hq; simpa using this)⟩ ?_ ?_
      · rintro i ρ hi ⟨ks, d, o9, o10, rfl, ho9, hd0, k1, k2, k3⟩
        simp [wE]
        refine Cr.S_use (hd d _ hd0 (by omega) (by omega)) ?_
        rintro _ _ ⟨x, d, rfl, x1, x2, hd0, rfl⟩
        obtain ⟨x, rfl⟩ := Int.eq_ofNat_of_zero_le x1
        simp
        refine Cr.S_use (hd d _ hd0 (by omega) (by omega)) ?_
        rintro _ _ ⟨y, d, rfl, y1, y2, hd0, rfl⟩
        obtain ⟨y, rfl⟩ := Int.eq_ofNat_of_zero_le y1
        have hz : ((x : Int) + 1 + y) % n = (((x + 1 + y) % n : Nat) : Int) := by push_cast; rfl
        have hzn : (x + 1 + y) % n < n := Nat.mod_lt _ (by omega)
        have hzx : (x + 1 + y) % n ≠ x := by
          by_cases hh : x + 1 + y < n
          · rw [Nat.mod_eq_of_lt hh]; omega
          · rw [Nat.mod_eq_sub_mod (by omega), Nat.mod_eq_of_lt (by omega)]; omega
        generalize (x + 1 + y) % n = z at *
        have hmin : min (x : Int) (z : Int) = ((min x z : Nat) : Int) := by omega
        have hmax : max (x : Int) (z : Int) = ((max x z : Nat) : Int) := by omega
        have hn0 : 0 < n := by omega
        simp [hz, hmin, hmax, hn0, SS_ifs]
        have hsh : min x z < max x z ∧ max x z < n := by omega
        by_cases hm : (min x z, max x z) ∈ ks
        · simp [hm]
          exact ⟨_, _, _, _, rfl, by simp, hd0, k1.erase _, by have := List.length_erase_le (a := (min x z, max x z)) (l := ks); omega, fun q hq => k3 q (List.mem_of_mem_erase hq)⟩
        · have hks : ks.length < 16777216 := by omega
          simp [hm, sizeLine_eq, hks]
          exact ⟨_, _, _, _, rfl, by simp, hd0, nodup_addP k1, by have := addP_length (ks := ks) (p := (min x z, max x z)); omega, fun q hq => by
            rcases mem_addP.mp hq with h | rfl
            · exact k3 q h
            · exact hsh⟩
      · rintro ρ ⟨ks, d, o9, o10, rfl, ho9, hd0, k1, k2, k3⟩
        exact ⟨rfl, ks, d, o9, o10, rfl, ho9, hd0, k1, by omega, k3⟩
  · rintro _ _ ⟨rfl, ks, d, o9, o10, rfl, hq, hd0, k1, k2, k3⟩
    have hks : ks.length < 16777216 := by omega
    have ek := keysP_raw (ks := ks)
    simp at ek
    simp [wE, sizeLine_eq, hks, ek, -Function.comp_def]
    refine ⟨fun x h => hq x h, ?_⟩
    refine lcX_map prR (fun q => Pr.D ⟨false, p.getD q.1 0, p.getD q.2 0⟩) _ (fun q hqm => ?_) ?_
    · have h1 := k3 q hqm
      have h2 : q.1 < p.length := by omega
      have h3 : q.2 < p.length := by omega
      simp [prR, atI_nat, h2, h3, Pr.D]
    · simp
      have e3 : (ks.map fun q : Nat × Nat => Pr.D ⟨false, p.getD q.1 0, p.getD q.2 0⟩) = (ks.map fun q : Nat × Nat => (⟨false, p.getD q.1 0, p.getD q.2 0⟩ : Pr)).map Pr.D := by simp
      have hw2 := hw n (ks.map fun q : Nat × Nat => (⟨false, p.getD q.1 0, p.getD q.2 0⟩ : Pr)) (by simp; omega)
      rw [← e3] at hw2
      refine Cr.S_use hw2 ?_
      rintro _ _ ⟨w, rfl, w1, w2, w3, w4, rfl⟩
      simp
      have pg : ∀ a, a < n → ∃ h : a < p.length, p.getD a 0 = p[a] := fun a ha => ⟨by omega, by simp [List.getD, show a < p.length by omega]⟩
      have pr : ∀ a, a < n → p.getD a 0 < n := fun a ha => by
        obtain ⟨h, e⟩ := pg a ha
        rw [e]
        have := hp.mem_iff.mp (List.getElem_mem h)
        simpa using this
      have pn : p.Nodup := hp.nodup_iff.mpr List.nodup_range
      have pi : ∀ a b, a < n → b < n → p.getD a 0 = p.getD b 0 → a = b := fun a b ha hb e => by
        obtain ⟨h1, e1⟩ := pg a ha
        obtain ⟨h2, e2⟩ := pg b hb
        rw [e1, e2] at e
        exact (List.getElem_inj pn).mp e
      have mem : ∀ i k, (i, k) ∈ w.cells ↔ ∃ q ∈ ks, (p.getD q.1 0 = i ∧ p.getD q.2 0 = k) ∨ (p.getD q.1 0 = k ∧ p.getD q.2 0 = i) := fun i k => by
        rw [w2]
        constructor
        · rintro ⟨r, hr, h⟩
          obtain ⟨q, hq, rfl⟩ := List.mem_map.mp hr
          exact ⟨q, hq, h⟩
        · rintro ⟨q, hq, h⟩
          exact ⟨_, List.mem_map.mpr ⟨q, hq, rfl⟩, h⟩
      refine ⟨w, rfl, ⟨by omega, by omega, fun i k h => ?_, fun i k h => ?_, w3, by simp at w4; omega⟩, by omega, d, hd0, rfl⟩
      · obtain ⟨q, hq, h⟩ := (mem i k).mp h
        obtain ⟨s1, s2⟩ := k3 q hq
        have r1 := pr q.1 (by omega)
        have r2 := pr q.2 (by omega)
        have r3 : p.getD q.1 0 ≠ p.getD q.2 0 := fun e => by have := pi _ _ (by omega) (by omega) e; omega
        rw [w1]
        rcases h with ⟨rfl, rfl⟩ | ⟨rfl, rfl⟩
        · exact ⟨r1, r2, r3⟩
        · exact ⟨r2, r1, Ne.symm r3⟩
      · obtain ⟨q, hq, h⟩ := (mem i k).mp h
        exact (mem k i).mpr ⟨q, hq, h.symm⟩
end Mini
set_option linter.all false
set_option maxRecDepth 100000
namespace Mini
open PySem L2
theorem map_range_set {α : Type} (f : Nat → α) (n i : Nat) (v : α) : ((List.range n).map f).set i v = (List.range n).map fun j => if j = i then v else f j := by
  apply List.ext_getElem?
  intro j
  rw [List.getElem?_set]
  by_cases hij : i = j
  · subst hij
    simp
    by_cases hn : i < n
    · simp [hn]
    · simp [hn]
  · simp [hij]
    by_cases hn : j < n
    · simp [hn, Ne.symm hij]
    · simp [hn]
theorem map_range_congr {α : Type} {f g : Nat → α} {n : Nat} (h : ∀ i, i < n → f i = g i) : (List.range n).map f = (List.range n).map g := List.map_congr_left fun i hi => h i (by simpa using hi)
/-- what row i has in cells -/
def rowOf (cs : List (Nat × Nat)) (i : Nat) : List Nat := (cs.filter fun c => c.1 == i).map (·.2)
def Web.nb (w : Web) (i : Nat) : List Nat := rowOf w.cells i
theorem mem_rowOf {cs : List (Nat × Nat)} {i k : Nat} : k ∈ rowOf cs i ↔ (i, k) ∈ cs := by
  simp [rowOf]
theorem rowOf_snoc {cs : List (Nat × Nat)} {c : Nat × Nat} {i : Nat} : rowOf (cs ++ [c]) i = if i = c.1 then rowOf cs i ++ [c.2] else rowOf cs i := by
  unfold rowOf
  rw [List.filter_append, List.map_append]
  by_cases h : i = c.1
  · subst h; simp
  · simp [h, Ne.symm h]
theorem rowOf_length {cs : List (Nat × Nat)} {i : Nat} : (rowOf cs i).length ≤ cs.length := by
  simp [rowOf]; exact List.length_filter_le _ _
def natsD (l : List Nat) : List Mini.D := l.map fun k : Nat => .int k
@[simp] theorem pures_natsD {l : List Nat} : D.pures (natsD l) = true := pures_intf
@[simp] theorem frzs_natsD {l : List Nat} : D.frzs (natsD l) = natsD l := frzs_intf
@[simp] theorem natsD_length {l : List Nat} : (natsD l).length = l.length := by simp [natsD]
theorem natsD_snoc {l : List Nat} {k : Nat} : natsD l ++ [.int k] = natsD (l ++ [k]) := by simp [natsD]
section
variable {Φ : Phi} {Q : Fl → Env → Prop} {X : Ex → Env → Prop} {ρ : Env}
theorem forX_ixN {tg : List Nat} {body : CS} {w : List Nat} (l : List Nat) (I : Nat → Env → Prop) (h0 : I 0 ρ) (hs : ∀ (k : Nat) (h : k < l.length) (ρ : Env), I k ρ → (stepF Φ tg body (.int l[k]) ρ).S (loopK (I (k + 1)) w Q .t .t .t) X) (he : ∀ ρ, I l.length ρ → Q .next ρ) : (forX Φ tg body w (natsD l) ρ).S Q X := forX_ix (fun k : Nat => D.int k) l I h0 hs he
theorem forX_enumN {tg : List Nat} {body : CS} {w : List Nat} (l : List Nat) (I : Nat → Env → Prop) (h0 : I 0 ρ) (hs : ∀ (k : Nat) (h : k < l.length) (ρ : Env), I k ρ → (stepF Φ tg body (.raw [.int k, .int l[k]]) ρ).S (loopK (I (k + 1)) w Q .t .t .t) X) (he : ∀ ρ, I l.length ρ → Q .next ρ) : (forX Φ tg body w (zipIdxD (natsD l)) ρ).S Q X := forX_enum (fun k : Nat => D.int k) l I h0 hs he
end
section
variable {Φ : Phi} {Q : List D → Env → Prop} {X : Ex → Env → Prop} {ρ : Env}
theorem lcX_pureN {own : Bool} {elt : CE} {tg : List Nat} {cond : CEs} (c : Nat → Bool) (g : Nat → D) (l : List Nat)
    (hs : ∀ a ∈ l, optK (bindT tg (.int a) ρ) fun ρ1 => (dC Φ cond ρ1).S (fun b ρ2 => b = c a ∧ condK b ((eltF Φ own elt ρ2).S (fun y ρ3 => y = g a ∧ okS tg ρ3 = true ∧ wipeS tg ρ3 = ρ) noX) (okS tg ρ2 = true ∧ wipeS tg ρ2 = ρ)) noX)
    (he : Q ((l.filter c).map g) ρ) : (lcX Φ own elt tg cond (natsD l) [] ρ).S Q X := lcX_pure (fun k : Nat => D.int k) c g l hs he
theorem lcX_mapN {own : Bool} {elt : CE} {tg : List Nat} (g : Nat → D) (l : List Nat)
    (hs : ∀ a ∈ l, optK (bindT tg (.int a) ρ) fun ρ1 => (eltF Φ own elt ρ1).S (fun y ρ3 => y = g a ∧ okS tg ρ3 = true ∧ wipeS tg ρ3 = ρ) noX)
    (he : Q (l.map g) ρ) : (lcX Φ own elt tg .nil (natsD l) [] ρ).S Q X := lcX_map (fun k : Nat => D.int k) g l hs he
/-- a filter -/
theorem lcX_filtN {own : Bool} {elt : CE} {tg : List Nat} {cond : CEs} (c : Nat → Bool) (l : List Nat)
    (hs : ∀ a ∈ l, optK (bindT tg (.int a) ρ) fun ρ1 => (dC Φ cond ρ1).S (fun b ρ2 => b = c a ∧ condK b ((eltF Φ own elt ρ2).S (fun y ρ3 => y = .int a ∧ okS tg ρ3 = true ∧ wipeS tg ρ3 = ρ) noX) (okS tg ρ2 = true ∧ wipeS tg ρ2 = ρ)) noX)
    (he : Q (natsD (l.filter c)) ρ) : (lcX Φ own elt tg cond (natsD l) [] ρ).S Q X := lcX_pureN c (fun a => .int a) l hs he
/-- a filter of the target's own name -/
theorem lcX_filtV {own : Bool} {t : Nat} {cond : CEs} (c : Nat → Bool) (l : List Nat) (hn : ρ[t]? = some none)
    (hs : ∀ a ∈ l, (dC Φ cond (ρ.set t (some (.int a)))).S (fun b ρ2 => b = c a ∧ ρ2 = ρ.set t (some (.int a))) noX)
    (he : Q (natsD (l.filter c)) ρ) : (lcX Φ own (.var t) [t] cond (natsD l) [] ρ).S Q X := by
  have ht : t < ρ.length := by
    rcases Nat.lt_or_ge t ρ.length with h | h
    · exact h
    · rw [List.getElem?_eq_none h] at hn; cases hn
  have hw : ∀ x : D, (ρ.set t (some x)).set t none = ρ := fun x => by
    rw [List.set_set]
    apply List.ext_getElem?
    intro i
    rw [List.getElem?_set]
    split
    · rename_i h; subst h; exact hn.symm
    · rfl
  refine lcX_filtN c l (fun a ha => ?_) he
  rw [bindT_one, if_pos ht, optK_some]
  refine Rx.S_mono (hs a ha) ?_ (fun _ _ z => z)
  rintro b ρ2 ⟨rfl, rfl⟩
  have hg : getS (ρ.set t (some (D.int a))) t = some (.int a) := by
    unfold getS; rw [List.getElem?_set_self ht]; rfl
  refine ⟨rfl, fun _ => ?_, fun _ => ?_⟩
  · rw [S_eltF, S_var, hg, optK_some]
    simp [hg, hw]
  · simp [hg, hw]
end
theorem natsD_get {l : List Nat} {i : Nat} (h : i < l.length) : atI (natsD l) (i : Int) = some (.int l[i]) := by
  rw [natsD, atI_map, atI_nat, List.getElem?_eq_getElem h]; rfl
@[simp] theorem inD_natsD {l : List Nat} {k : Nat} : inD (.int k) (natsD l) = some (decide (k ∈ l)) := by
  rw [natsD, inD_intsf]
  congr 1
  simp [Int.natCast_inj]
/-- rows of neighbours, as tuples -/
def rowsD (n : Nat) (nb : Nat → List Nat) : Mini.D := .lst false ((List.range n).map fun i => .tup (natsD (nb i)))
@[simp] theorem pure_rowsD {n : Nat} {nb : Nat → List Nat} : (rowsD n nb).pure = true := rfl
theorem rowsD_get {n : Nat} {nb : Nat → List Nat} {i : Nat} (h : i < n) : ixD (rowsD n nb) (.int i) = some (.tup (natsD (nb i))) := by
  rw [rowsD, ixD_lst, atI_map, atI_nat]
  simp [h]
def NbrsS (F : List Mini.D → Cr) : Prop := ∀ w : Web, w.ok → (F [w.D]).S (fun r o => r = rowsD w.n w.nb ∧ o = []) noX
theorem nbrs_ok {Φ : Phi} : NbrsS (rF Φ f_neighbour_rows) := by
  intro w hw
  have w1 := hw.pos
  have w2 := hw.le
  have w3 := hw.rng
  have w6 := hw.len
  refine S_def rfl ?_
  have hn : w.n < 16777216 := by omega
  simp [f_neighbour_rows, CF.start, Web.D, sizeLine_eq, hn]
  refine ⟨by omega, ?_⟩
  rw [rangeD_map]
  refine lcX_map D.int (fun _ => .lst true []) _ (fun a _ => by simp) ?_
  simp
  refine forX_done cellD w.cells (fun done ρ => ρ = [some w.D, some (.lst true ((List.range w.n).map fun i => .lst true (natsD (rowOf done i)))), none, none, none, none]) (by simp [rowOf, natsD, Web.D]) ?_ ?_
  · rintro done ⟨i, k⟩ rest ρ e rfl
    have hm : (i, k) ∈ w.cells := by rw [e]; simp
    obtain ⟨r1, r2, r3⟩ := w3 i k hm
    have hl : done.length ≤ w.cells.length := by rw [e]; simp
    have hl2 : (rowOf done i).length < 16777216 := by have := rowOf_length (cs := done) (i := i); omega
    simp [cellD, atI_nat, ixN_nat, r1, hl2, sizeLine_eq, natsD_snoc]
    rw [map_range_set]
    refine map_range_congr fun j hj => ?_
    rw [rowOf_snoc]
    by_cases hji : j = i
    · subst hji; simp
    · simp [hji]
  · rintro ρ rfl
    simp [Web.D, frzs_map, Function.comp_def, hn, sizeLine_eq]
    refine lcX_map (fun i => .lst false (natsD (rowOf w.cells i))) (fun i => .tup (natsD (rowOf w.cells i))) _ (fun a _ => by simp) ?_
    simp [frzs_map, Function.comp_def]
    rfl
/-! rows as dicts -/
def nkD (m : Bool) (l : List Nat) : Mini.D := .dK m (l.map fun k : Nat => (.inl (k : Int) : Key)) (List.replicate l.length (.bl true))
@[simp] theorem frz_nkD {m : Bool} {l : List Nat} : (nkD m l).frz = nkD false l := by
  cases m
  · rfl
  · simp [nkD]; rw [frzs_pures]; simp
@[simp] theorem pure_nkD {m : Bool} {l : List Nat} : (nkD m l).pure = !m := rfl
theorem hasK_nk {l : List Nat} {k : Nat} : hasK (l.map fun k : Nat => (.inl (k : Int) : Key)) (.inl (k : Int)) = decide (k ∈ l) := by
  unfold hasK
  congr 1
  simp [Int.natCast_inj]
@[simp] theorem in_nkD {m : Bool} {l : List Nat} {k : Nat} : cmpD .In (.int k) (nkD m l) = some (decide (k ∈ l)) := by
  unfold nkD; rw [cmp_inK, hasK_nk]
@[simp] theorem nin_nkD {m : Bool} {l : List Nat} {k : Nat} : cmpD .NotIn (.int k) (nkD m l) = some (!decide (k ∈ l)) := by
  unfold nkD; rw [cmp_ninK, hasK_nk]
theorem fSet_nk {l : List Nat} {k : Nat} (h : k ∉ l) (hl : l.length < sizeLine) : fSetIx (.int k) (.bl true) (nkD true l) = some (.non, nkD true (l ++ [k])) := by
  have e : (Sum.inl (k : Int) : Key) ∉ l.map fun k : Nat => (.inl (k : Int) : Key) := by
    simp only [List.mem_map, not_exists, not_and]
    intro x hx e
    have : x = k := by injection e with e; omega
    exact h (this ▸ hx)
  simp only [nkD, fSetIx, keyOf_int, Option.bind_some, List.length_map, if_pos hl, putT, if_neg e]
  simp [List.replicate_succ']
def neardD (n : Nat) (nb : Nat → List Nat) : Mini.D := .lst false ((List.range n).map fun i => nkD false (nb i))
@[simp] theorem pure_neardD {n : Nat} {nb : Nat → List Nat} : (neardD n nb).pure = true := rfl
theorem neardD_get {n : Nat} {nb : Nat → List Nat} {i : Nat} (h : i < n) : ixD (neardD n nb) (.int i) = some (nkD false (nb i)) := by
  rw [neardD, ixD_lst, atI_map, atI_nat]
  simp [h]
def NearS (F : List Mini.D → Cr) : Prop := ∀ w : Web, w.ok → (F [w.D]).S (fun r o => r = neardD w.n w.nb ∧ o = []) noX
theorem near_ok {Φ : Phi} : NearS (rF Φ f_law_near) := by
  intro w hw
  have w1 := hw.pos
  have w2 := hw.le
  have w3 := hw.rng
  have w5 := hw.ris
  have w6 := hw.len
  refine S_def rfl ?_
  have hn : w.n < 16777216 := by omega
  simp [f_law_near, CF.start, Web.D, sizeLine_eq, hn]
  refine ⟨by omega, ?_⟩
  rw [rangeD_map]
  refine lcX_map D.int (fun _ => nkD true []) _ (fun a _ => by simp; rfl) ?_
  simp
  refine forX_done cellD w.cells (fun done ρ => ρ = [some w.D, some (.lst true ((List.range w.n).map fun i => nkD true (rowOf done i))), none, none]) (by simp [rowOf, Web.D]) ?_ ?_
  · rintro done ⟨i, k⟩ rest ρ e rfl
    have hm : (i, k) ∈ w.cells := by rw [e]; simp
    obtain ⟨r1, r2, r3⟩ := w3 i k hm
    have hl : done.length ≤ w.cells.length := by rw [e]; simp
    have hl2 : (rowOf done i).length < sizeLine := by have := rowOf_length (cs := done) (i := i); rw [sizeLine_eq]; omega
    have hk : k ∉ rowOf done i := by
      rw [mem_rowOf]
      intro hd
      rw [e, List.pairwise_append] at w5
      have := w5.2.2 _ hd _ (List.mem_cons_self)
      unfold ltP at this
      omega
    have fs := fSet_nk hk hl2
    simp [cellD, atI_nat, ixN_nat, r1, fs]
    rw [map_range_set]
    refine map_range_congr fun j hj => ?_
    rw [rowOf_snoc]
    by_cases hji : j = i
    · subst hji; simp
    · simp [hji]
  · rintro ρ rfl
    simp [Web.D, frzs_map, Function.comp_def, hn, sizeLine_eq]
    rfl
/-! places -/
/-- what may be judged: no bare raw thing, no script, nothing owned; a tuple of such things -/
def Thing (d : Mini.D) : Prop := d.pure = true ∧ (match d with
  | .raw _ => False
  | .scr _ => False
  | .tup xs => xs.length ≤ 1000 ∧ ∀ x ∈ xs, x.pure = true
  | _ => True)
def wholeD : Mini.D → Bool
  | .int _ => true
  | _ => false
def WholeS (F : List Mini.D → Cr) : Prop := ∀ d : Mini.D, d.pure = true → (F [d]).S (fun r o => r = .bl (wholeD d) ∧ o = []) noX
theorem whole_ok {Φ : Phi} : WholeS (rF Φ f_is_whole) := by
  intro d hd
  refine S_def rfl ?_
  simp [f_is_whole, CF.start, hd]
  cases d <;> simp [isiD, wholeD]
theorem lwhole_ok {Φ : Phi} : WholeS (rF Φ f_law_whole) := by
  intro d hd
  refine S_def rfl ?_
  simp [f_law_whole, CF.start, hd]
  cases d <;> simp [isiD, wholeD]
/-- unlike places below n, told as a tuple -/
def placesOf (d : Mini.D) : Option (List Int) := match d with
  | .tup xs => intsOf xs
  | _ => none
def isPl (n : Nat) (d : Mini.D) : Bool := match placesOf d with
  | some ns => ns.all (fun i => decide (0 ≤ i ∧ i < n)) && decide ns.Nodup
  | none => false
def ArePlS (F : List Mini.D → Cr) : Prop := ∀ (n : Nat) (d : Mini.D), Thing d → (F [.int n, d]).S (fun r o => r = .bl (isPl n d) ∧ o = []) noX
def inR (n : Nat) (d : Mini.D) : Bool := match d with
  | .int i => decide (0 ≤ i ∧ i < n)
  | _ => false
theorem inR_all {n : Nat} : ∀ {xs : List Mini.D}, (∀ x ∈ xs, inR n x = true) → ∃ ns : List Int, xs = ns.map D.int
  | [], _ => ⟨[], rfl⟩
  | x :: xs, h => by
    obtain ⟨ns, rfl⟩ := inR_all (xs := xs) fun y hy => h y (by simp [hy])
    have := h x (by simp)
    cases x with
    | int i => exact ⟨i :: ns, rfl⟩
    | _ => cases this
theorem arePl_ok {Φ : Phi} {f : Nat} (hw : WholeS (Φ f)) : ArePlS (rF Φ (f_are_places f)) := by
  intro n d ⟨hp, hd⟩
  refine S_def rfl ?_
  cases d with
  | raw xs => exact hd.elim
  | scr ns => exact hd.elim
  | tup xs =>
    obtain ⟨hl, hx⟩ := hd
    simp [f_are_places, CF.start, SS_ifs, isiD, sizeLine_eq]
    refine ⟨by omega, ?_⟩
    refine lcX_mapi (fun x => .bl (inR n x)) xs (fun x hxm => ?_) ?_
    · have hxp := hx x hxm
      simp [hxp]
      refine Cr.S_use (hw x hxp) ?_
      rintro _ _ ⟨rfl, rfl⟩
      simp
      refine condK_i (fun h => ?_) (fun h => ?_)
      · cases x with
        | int i =>
          simp [inR]
          refine condK_i (fun h => ?_) (fun h => ?_)
          · simp at h
            simp [h]
          · simp at h
            simp; omega
        | _ => cases h
      · simp [hxp]
        cases x with
        | int i => cases h
        | _ => rfl
    · simp
      refine condK_i (fun h => ?_) (fun h => ?_)
      · simp at h
        simp
        obtain ⟨x, h1, h2⟩ := h
        simp only [isPl, placesOf]
        split
        · rename_i ns hns
          have := intsOf_eq hns
          subst this
          simp at h1
          obtain ⟨i, hi, rfl⟩ := h1
          simp
          intro hall
          have := hall i hi
          simp [inR] at h2
          omega
        · rfl
      · simp only [Bool.not_eq_false', List.all_eq_true] at h
        obtain ⟨ns, rfl⟩ := inR_all h
        simp at hl
        have hall : ∀ i ∈ ns, 0 ≤ i ∧ i < n := fun i hi => by
          have := h (.int i) (by simpa using hi)
          simpa [inR] using this
        simp [b1D, hl]
        simp only [isPl, placesOf, intsOf_map]
        have e1 : (ns.all fun i => decide (0 ≤ i ∧ i < (n : Int))) = true := by
          rw [List.all_eq_true]; intro i hi; simpa using hall i hi
        rw [e1, Bool.true_and]
        refine decide_eq_decide.mpr ?_
        rw [← dedup_nodup]
        omega
  | _ => simp [f_are_places, CF.start, hp, SS_ifs, isiD, isPl, placesOf]
end Mini
set_option linter.all false
set_option maxRecDepth 100000
namespace Mini
open PySem L2
theorem whole_all : ∀ {xs : List Mini.D}, (∀ x ∈ xs, wholeD x = true) → ∃ ns : List Int, xs = ns.map D.int
  | [], _ => ⟨[], rfl⟩
  | x :: xs, h => by
    obtain ⟨ns, rfl⟩ := whole_all (xs := xs) fun y hy => h y (by simp [hy])
    have := h x (by simp)
    cases x with
    | int i => exact ⟨i :: ns, rfl⟩
    | _ => cases this
theorem larePl_ok {Φ : Phi} {f : Nat} (hw : WholeS (Φ f)) : ArePlS (rF Φ (f_law_are_places f)) := by
  intro n d ⟨hp, hd⟩
  refine S_def rfl ?_
  cases d with
  | raw xs => exact hd.elim
  | scr ns => exact hd.elim
  | tup xs =>
    obtain ⟨hl, hx⟩ := hd
    simp [f_law_are_places, CF.start, SS_ifs, isiD, sizeLine_eq]
    refine ⟨by omega, ?_⟩
    refine lcX_purei (fun x => !wholeD x) (fun x => x) xs (fun x hxm => ?_) ?_
    · have hxp := hx x hxm
      simp [hxp]
      refine Cr.S_use (hw x hxp) ?_
      rintro _ _ ⟨rfl, rfl⟩
      simp
      refine condK_i (fun h => ?_) (fun h => ?_) <;> simp [hxp]
    · simp
      refine condK_i (fun h => ?_) (fun h => ?_)
      · simp at h
        obtain ⟨x, h1, h2⟩ := h
        simp
        simp only [isPl, placesOf]
        split
        · rename_i ns hns
          have := intsOf_eq hns
          subst this
          simp at h1
          obtain ⟨i, hi, rfl⟩ := h1
          cases h2
        · rfl
      · have h3 : ∀ x ∈ xs, wholeD x = true := by simpa using h
        obtain ⟨ns, rfl⟩ := whole_all h3
        simp at hl
        simp
        refine ⟨by rw [sizeLine_eq]; omega, ?_⟩
        refine lcX_pure D.int (fun i => !decide (0 ≤ i ∧ i < (n : Int)) || decide ((1 : Int) < (ns.count i : Nat))) D.int ns (fun i hi => ?_) ?_
        · have hc : cntD (.tup (ns.map D.int)) (.int i) = some (.int (ns.count i : Nat)) := by simp [cntD]
          simp
          refine condK_i (fun h => ?_) (fun h => ?_)
          · simp at h
            simp
            refine condK_i (fun h2 => ?_) (fun h2 => ?_)
            · simp at h2
              simp [h, h2]
            · simp at h2
              have h3 : i < n := by omega
              simp [hc, h, h3]
              refine condK_i (fun _ => by simp) (fun _ => by simp)
          · simp at h
            simp [h]
        · simp
          simp only [isPl, placesOf, intsOf_map]
          rw [Bool.eq_iff_iff]
          simp only [decide_eq_true_eq, List.isEmpty_iff, List.filter_eq_nil_iff, Bool.and_eq_true, List.all_eq_true]
          constructor
          · intro h
            refine ⟨fun x hx => ?_, List.nodup_iff_count.mpr fun a => ?_⟩
            · have := h x hx
              simp at this
              exact this.1
            · by_cases ha : a ∈ ns
              · have := h a ha
                simp at this
                omega
              · rw [List.count_eq_zero_of_not_mem ha]; omega
          · rintro ⟨h1, h2⟩ a ha
            have h3 := h1 a ha
            have h4 := List.nodup_iff_count.mp h2 a
            simp [h3]
            omega
  | _ => simp [f_law_are_places, CF.start, hp, SS_ifs, isiD, isPl, placesOf]
end Mini
set_option linter.all false
set_option maxRecDepth 100000
namespace Mini
open PySem L2
theorem nats_of_ints : ∀ {ns : List Int}, (∀ i ∈ ns, 0 ≤ i) → ∃ l : List Nat, ns = l.map fun k : Nat => (k : Int)
  | [], _ => ⟨[], rfl⟩
  | n :: ns, h => by
    obtain ⟨l, rfl⟩ := nats_of_ints (ns := ns) fun i hi => h i (by simp [hi])
    have := h n (by simp)
    exact ⟨n.toNat :: l, by simp; omega⟩
theorem natsD_eq {l : List Nat} : natsD l = (l.map fun k : Nat => (k : Int)).map D.int := by simp [natsD]
theorem isPl_iff {n : Nat} {d : Mini.D} : isPl n d = true ↔ ∃ l : List Nat, d = .tup (natsD l) ∧ (∀ x ∈ l, x < n) ∧ l.Nodup := by
  constructor
  · intro h
    unfold isPl placesOf at h
    cases d with
    | tup xs =>
      simp only at h
      cases e : intsOf xs with
      | none => rw [e] at h; cases h
      | some ns =>
        rw [e] at h
        have := intsOf_eq e
        subst this
        simp only [Bool.and_eq_true, List.all_eq_true, decide_eq_true_eq] at h
        obtain ⟨l, rfl⟩ := nats_of_ints fun i hi => (h.1 i hi).1
        refine ⟨l, by rw [natsD_eq], fun x hx => ?_, ?_⟩
        · have := (h.1 x (by simp; exact ⟨x, hx, rfl⟩)).2
          omega
        · have := h.2
          rw [List.Nodup, List.pairwise_map] at this
          exact this.imp fun h e => h (by rw [e])
    | _ => cases h
  · rintro ⟨l, rfl, h1, h2⟩
    simp only [isPl, placesOf, natsD_eq, intsOf_map, Bool.and_eq_true, List.all_eq_true, decide_eq_true_eq]
    refine ⟨fun i hi => ?_, ?_⟩
    · simp at hi
      obtain ⟨x, hx, rfl⟩ := hi
      have := h1 x hx
      omega
    · rw [List.Nodup, List.pairwise_map]
      exact h2.imp fun h e => h (by omega)
def RingL (w : Web) (l : List Nat) : Prop := 4 ≤ l.length ∧ (∀ x ∈ l, x < w.n) ∧ l.Nodup ∧ ∀ a b (_ : a < b) (_ : b < l.length), w.adj l[a] l[b] ↔ (b = a + 1 ∨ (a = 0 ∧ b = l.length - 1))
def RingOf (w : Web) (d : Mini.D) : Prop := ∃ l : List Nat, d = .tup (natsD l) ∧ RingL w l
theorem natsD_inj {l l' : List Nat} (h : natsD l = natsD l') : l = l' := by
  have := congrArg intsOf h
  rw [natsD_eq, natsD_eq, intsOf_map, intsOf_map, Option.some.injEq] at this
  exact List.map_inj_right (fun a b e => by omega) |>.mp this
theorem RingOf_iff {w : Web} {l : List Nat} : RingOf w (.tup (natsD l)) ↔ RingL w l := by
  constructor
  · rintro ⟨l', e, h⟩
    have := natsD_inj (D.tup.inj e)
    subst this; exact h
  · exact fun h => ⟨l, rfl, h⟩
def IsRingS (F : List Mini.D → Cr) : Prop := ∀ (w : Web) (d : Mini.D), w.ok → Thing d → (F [w.D, d]).S (fun r o => ∃ b, r = .bl b ∧ (b = true ↔ RingOf w d) ∧ o = []) noX
theorem isRing_ok {Φ : Phi} {fp fn : Nat} (hp : ArePlS (Φ fp)) (hn : NbrsS (Φ fn)) : IsRingS (rF Φ (f_is_ring fp fn)) := by
  intro w d hw hd
  refine S_def rfl ?_
  have hdp : d.pure = true := hd.1
  have e0 : w.D = .tup [.int w.n, .tup (w.cells.map cellD)] := rfl
  rw [e0]
  simp [f_is_ring, CF.start, SS_ifs, hdp]
  refine Cr.S_use (hp w.n d hd) ?_
  rintro _ _ ⟨rfl, rfl⟩
  simp
  refine condK_i (fun h => ?_) (fun h => ?_)
  · simp
    rintro ⟨l, rfl, h1, h2, h3, h4⟩
    have := isPl_iff.mpr ⟨l, rfl, h2, h3⟩
    rw [this] at h
    cases h
  · have h' : isPl w.n d = true := by simpa using h
    obtain ⟨l, rfl, hl, hnd⟩ := isPl_iff.mp h'
    have hl2 : l.length ≤ 1000 := by have := hd.2.1; simpa using this
    simp
    refine condK_i (fun h => ?_) (fun h => ?_)
    · simp at h
      simp
      rw [RingOf_iff]
      intro h2
      have := h2.1
      omega
    · simp at h
      simp
      rw [← e0]
      refine Cr.S_use (hn w hw) ?_
      rintro _ _ ⟨rfl, rfl⟩
      simp
      refine forX_enumN l (fun k ρ => ρ = [some w.D, some (.tup (natsD l)), some (rowsD w.n w.nb), none, none, none, none] ∧ ∀ a b (_ : a < b) (_ : b < l.length), a < k → (w.adj l[a] l[b] ↔ (b = a + 1 ∨ (a = 0 ∧ b = l.length - 1)))) ⟨rfl, by intros; omega⟩ ?_ ?_
      · rintro k hk ρ ⟨rfl, hI⟩
        simp
        refine ⟨by omega, ?_⟩
        have hlk : l[k] < w.n := hl _ (List.getElem_mem hk)
        refine forX_range _ _ (fun j ρ => ρ = [some w.D, some (.tup (natsD l)), some (rowsD w.n w.nb), some (.int k), some (.int l[k]), none, none] ∧ ∀ b (_ : k < b) (_ : b < l.length), b < k + 1 + j → (w.adj l[k] l[b] ↔ (b = k + 1 ∨ (k = 0 ∧ b = l.length - 1)))) ⟨rfl, by intros; omega⟩ ?_ ?_
        · rintro j ρ hj ⟨rfl, hJ⟩
          have hb : k + 1 + j < l.length := by omega
          have e1 : (k : Int) + 1 + j = ((k + 1 + j : Nat) : Int) := by omega
          rw [e1]
          have g1 := natsD_get hb
          have g2 := rowsD_get (nb := w.nb) hlk
          have iff1 : (l[k + 1 + j] ∈ w.nb l[k]) ↔ w.adj l[k] l[k + 1 + j] := mem_rowOf
          generalize hbb : k + 1 + j = b at *
          simp [-SS_asg]
          rw [SS_asg]
          refine Rx.S_mid (fun x ρ => x = ⟨.bl (decide (b = k + 1 ∨ (k = 0 ∧ b = l.length - 1))), false⟩ ∧ ρ = [some w.D, some (.tup (natsD l)), some (rowsD w.n w.nb), some (.int k), some (.int l[k]), some (.int b), none]) ?_ ?_
          · simp
            refine condK_i (fun h => ?_) (fun h => ?_)
            · simp at h; simp; omega
            · simp at h; simp
              refine condK_i (fun h2 => ?_) (fun h2 => ?_)
              · simp at h2; simp; (try rw [Bool.eq_iff_iff]; simp); omega
              · simp at h2; simp; (try rw [Bool.eq_iff_iff]; simp); omega
          · rintro _ _ ⟨rfl, rfl⟩
            simp [SS_ifs, g1, g2]
            refine condK_i (fun h => ?_) (fun h => ?_)
            · simp
              rw [RingOf_iff]
              rintro ⟨q1, q2, q3, q4⟩
              have := q4 k b (by omega) hb
              simp at h
              apply h
              rw [Bool.eq_iff_iff]
              simpa [iff1] using this
            · simp
              intro b' h1 h2 h3
              by_cases hbb' : b' < b
              · exact hJ b' h1 h2 (by omega)
              · have : b' = b := by omega
                subst this
                have h4 : decide (l[b'] ∈ w.nb l[k]) = decide (b' = k + 1 ∨ (k = 0 ∧ b' = l.length - 1)) := by simpa using h
                have := decide_eq_decide.mp h4
                rw [iff1] at this
                exact this
        · rintro ρ ⟨rfl, hJ⟩
          simp
          intro a b hab hb2 hak
          by_cases h5 : a < k
          · exact hI a b hab hb2 h5
          · have : a = k := by omega
            subst this
            exact hJ b hab hb2 (by omega)
      · rintro ρ ⟨rfl, hI⟩
        simp
        rw [RingOf_iff]
        exact ⟨by omega, hl, hnd, fun a b h hb => hI a b h hb (by omega)⟩
end Mini
set_option linter.all false
set_option maxRecDepth 100000
namespace Mini
open PySem L2
theorem pInsI (a : Int) : ∀ l, (insI a l).Perm (a :: l)
  | [] => List.Perm.refl _
  | b :: bs => by
    unfold insI
    split
    · exact List.Perm.refl _
    · exact ((pInsI a bs).cons b).trans (List.Perm.swap _ _ _)
theorem pSortI : ∀ l, (sortI l).Perm l
  | [] => List.Perm.refl _
  | a :: l => (pInsI a _).trans ((pSortI l).cons a)
theorem insI_sorted {a : Int} : ∀ {l : List Int}, l.Pairwise (· ≤ ·) → (insI a l).Pairwise (· ≤ ·)
  | [], _ => by simp [insI]
  | b :: bs, h => by
    unfold insI
    rw [List.pairwise_cons] at h
    split
    · rename_i hab
      rw [List.pairwise_cons]
      refine ⟨fun c hc => ?_, List.pairwise_cons.mpr h⟩
      rcases List.mem_cons.mp hc with rfl | hc
      · exact hab
      · exact Int.le_trans hab (h.1 c hc)
    · rename_i hab
      rw [List.pairwise_cons]
      refine ⟨fun c hc => ?_, insI_sorted h.2⟩
      have := (pInsI a bs).mem_iff.mp hc
      rcases List.mem_cons.mp this with rfl | hc
      · omega
      · exact h.1 c hc
theorem sortI_sorted : ∀ {l : List Int}, (sortI l).Pairwise (· ≤ ·)
  | [] => List.Pairwise.nil
  | a :: l => insI_sorted sortI_sorted
theorem sorted_unique : ∀ {a b : List Int}, a.Pairwise (· ≤ ·) → b.Pairwise (· ≤ ·) → a.Perm b → a = b
  | [], b, _, _, h => by rw [List.nil_perm.mp h]
  | x :: xs, [], _, _, h => by have := h.length_eq; simp at this
  | x :: xs, y :: ys, h1, h2, h => by
    rw [List.pairwise_cons] at h1 h2
    have hxy : x ≤ y := by
      have : y ∈ x :: xs := h.mem_iff.mpr (by simp)
      rcases List.mem_cons.mp this with rfl | h
      · exact Int.le_refl _
      · exact h1.1 y h
    have hyx : y ≤ x := by
      have : x ∈ y :: ys := h.mem_iff.mp (by simp)
      rcases List.mem_cons.mp this with rfl | h
      · exact Int.le_refl _
      · exact h2.1 x h
    have : x = y := by omega
    subst this
    rw [sorted_unique h1.2 h2.2 (List.perm_cons x |>.mp h)]
theorem sortI_eq_iff {a b : List Int} : sortI a = sortI b ↔ a.Perm b :=
  ⟨fun h => (pSortI a).symm.trans (h ▸ pSortI b), fun h => sorted_unique sortI_sorted sortI_sorted ((pSortI a).trans (h.trans (pSortI b).symm))⟩
@[simp] theorem sortedD_natsD {m : Bool} {l : List Nat} : sortedD (.lst m (natsD l)) = some (.lst true ((sortI (l.map fun k : Nat => (k : Int))).map D.int)) := by
  rw [natsD_eq]; exact sortedD_ints intsOf_map
theorem perm_cast {a b : List Nat} : (a.map fun k : Nat => (k : Int)).Perm (b.map fun k : Nat => (k : Int)) ↔ a.Perm b := by
  constructor
  · intro h
    have := h.map Int.toNat
    rw [List.map_map, List.map_map] at this
    have e : ∀ l : List Nat, l.map (Int.toNat ∘ fun k : Nat => (k : Int)) = l := fun l => by
      conv => rhs; rw [← List.map_id l]
      exact List.map_congr_left fun x _ => by simp
    rwa [e, e] at this
  · exact fun h => h.map _
/-- the places ahead and behind in a ring -/
def prv (n k : Nat) : Nat := if k = 0 then n - 1 else k - 1
def nxt (n k : Nat) : Nat := (k + 1) % n
theorem prv_lt {n k : Nat} (h : k < n) : prv n k < n := by unfold prv; split <;> omega
theorem nxt_lt {n k : Nat} (h : k < n) : nxt n k < n := Nat.mod_lt _ (by omega)
theorem natsD_prv {l : List Nat} {k : Nat} (h : k < l.length) : atI (natsD l) ((k : Int) - 1) = some (.int (l[prv l.length k]'(prv_lt h))) := by
  by_cases h0 : k = 0
  · subst h0
    have e : prv l.length 0 = l.length - 1 := rfl
    show atI (natsD l) (-1) = _
    rw [atI_last, List.getLast?_eq_getElem?, natsD_length, natsD, List.getElem?_map, List.getElem?_eq_getElem (by omega)]
    simp [e]
  · have e : prv l.length k = k - 1 := by unfold prv; rw [if_neg h0]
    have e1 : (k : Int) - 1 = ((k - 1 : Nat) : Int) := by omega
    rw [e1, natsD_get (by omega)]
    simp [e]
theorem ringL_iff {w : Web} {l : List Nat} (hw : w.ok) (h4 : 4 ≤ l.length) (hl : ∀ x ∈ l, x < w.n) (hnd : l.Nodup) :
    RingL w l ↔ ∀ k (h : k < l.length), (l.filter fun x => decide (x ∈ w.nb l[k])).Perm [l[prv l.length k]'(prv_lt h), l[nxt l.length k]'(nxt_lt h)] := by
  have inj : ∀ a b (ha : a < l.length) (hb : b < l.length), l[a] = l[b] ↔ a = b := fun a b ha hb => List.getElem_inj hnd
  have adj : ∀ a b (ha : a < l.length) (hb : b < l.length), l[b] ∈ w.nb l[a] ↔ w.adj l[a] l[b] := fun a b ha hb => mem_rowOf
  have sym : ∀ i k, w.adj i k ↔ w.adj k i := fun i k => ⟨hw.symm i k, hw.symm k i⟩
  constructor
  · rintro ⟨_, _, _, h⟩ k hk
    have hp := prv_lt hk
    have hn := nxt_lt hk
    have hpn : prv l.length k ≠ nxt l.length k := by
      unfold prv nxt
      by_cases h1 : k + 1 < l.length
      · rw [Nat.mod_eq_of_lt h1]; split <;> omega
      · rw [show k + 1 = l.length by omega, Nat.mod_self]; split <;> omega
    have key : ∀ j (hj : j < l.length), w.adj l[k] l[j] ↔ (j = prv l.length k ∨ j = nxt l.length k) := by
      intro j hj
      have hnx : nxt l.length k = if k + 1 < l.length then k + 1 else 0 := by
        unfold nxt
        split
        · rename_i h1; exact Nat.mod_eq_of_lt h1
        · rw [show k + 1 = l.length by omega, Nat.mod_self]
      rcases Nat.lt_trichotomy j k with hjk | hjk | hjk
      · rw [sym, h j k hjk hk, hnx]
        unfold prv
        split <;> split <;> omega
      · subst hjk
        have : ¬ w.adj l[j] l[j] := fun ha => (hw.rng _ _ ha).2.2 rfl
        rw [hnx]
        unfold prv
        split <;> split <;> simp [this] <;> omega
      · rw [h k j hjk hj, hnx]
        unfold prv
        split <;> split <;> omega
    rw [List.perm_ext_iff_of_nodup (hnd.filter _) (by simp [inj _ _ hp hn, hpn])]
    intro x
    rw [List.mem_filter]
    simp only [decide_eq_true_eq, List.mem_cons, List.not_mem_nil, or_false]
    constructor
    · rintro ⟨hx, ha⟩
      obtain ⟨j, hj, rfl⟩ := List.getElem_of_mem hx
      rw [adj k j hk hj, key j hj] at ha
      rcases ha with rfl | rfl
      · exact Or.inl rfl
      · exact Or.inr rfl
    · rintro (rfl | rfl)
      · exact ⟨List.getElem_mem _, (adj k _ hk hp).mpr ((key _ hp).mpr (Or.inl rfl))⟩
      · exact ⟨List.getElem_mem _, (adj k _ hk hn).mpr ((key _ hn).mpr (Or.inr rfl))⟩
  · intro h
    refine ⟨h4, hl, hnd, fun a b hab hb => ?_⟩
    have ha : a < l.length := by omega
    have hm := (h a ha).mem_iff (a := l[b])
    rw [List.mem_filter] at hm
    simp only [decide_eq_true_eq, List.mem_cons, List.not_mem_nil, or_false] at hm
    rw [adj a b ha hb, inj _ _ hb (prv_lt ha), inj _ _ hb (nxt_lt ha)] at hm
    have hm2 : w.adj l[a] l[b] ↔ (b = prv l.length a ∨ b = nxt l.length a) := ⟨fun q => hm.mp ⟨List.getElem_mem _, q⟩, fun q => (hm.mpr q).2⟩
    rw [hm2]
    have : nxt l.length a = a + 1 := Nat.mod_eq_of_lt (by omega)
    rw [this]
    unfold prv
    split <;> omega
theorem lisRing_ok {Φ : Phi} {fp fn : Nat} (hp : ArePlS (Φ fp)) (hn : NearS (Φ fn)) : IsRingS (rF Φ (f_law_is_ring fp fn)) := by
  intro w d hw hd
  refine S_def rfl ?_
  have hdp : d.pure = true := hd.1
  have e0 : w.D = .tup [.int w.n, .tup (w.cells.map cellD)] := rfl
  rw [e0]
  simp [f_law_is_ring, CF.start, SS_ifs, hdp]
  refine Cr.S_use (hp w.n d hd) ?_
  rintro _ _ ⟨rfl, rfl⟩
  simp
  refine condK_i (fun h => ?_) (fun h => ?_)
  · simp
    rintro ⟨l, rfl, h1, h2, h3, h4⟩
    have := isPl_iff.mpr ⟨l, rfl, h2, h3⟩
    rw [this] at h
    cases h
  · have h' : isPl w.n d = true := by simpa using h
    obtain ⟨l, rfl, hl, hnd⟩ := isPl_iff.mp h'
    have hl2 : l.length ≤ 1000 := by have := hd.2.1; simpa using this
    simp
    refine condK_i (fun h => ?_) (fun h => ?_)
    · simp at h
      simp
      rw [RingOf_iff]
      intro h2
      have := h2.1
      omega
    · simp at h
      have h4 : 4 ≤ l.length := by omega
      simp
      rw [← e0]
      refine Cr.S_use (hn w hw) ?_
      rintro _ _ ⟨rfl, rfl⟩
      simp
      refine forX_enumN l (fun k ρ => ρ = [some w.D, some (.tup (natsD l)), some (neardD w.n w.nb), none, none, none, none] ∧ ∀ a (h : a < l.length), a < k → (l.filter fun x => decide (x ∈ w.nb l[a])).Perm [l[prv l.length a]'(prv_lt h), l[nxt l.length a]'(nxt_lt h)]) ⟨rfl, by intros; omega⟩ ?_ ?_
      · rintro k hk ρ ⟨rfl, hI⟩
        have hlk : l[k] < w.n := hl _ (List.getElem_mem hk)
        have g1 := natsD_prv hk
        have g2 := neardD_get (nb := w.nb) hlk
        have g3 := natsD_get (nxt_lt hk)
        have hpos : (0 : Int) < l.length := by omega
        have en : ((k : Int) + 1) % (l.length : Int) = ((nxt l.length k : Nat) : Int) := by unfold nxt; push_cast; rfl
        have hll : l.length < 16777216 := by omega
        simp [g1, en, g3, hpos, SS_ifs, sizeLine_eq, hll, -sortedD_two]
        refine ⟨by omega, ?_⟩
        refine lcX_filtV (fun x => decide (x ∈ w.nb l[k])) l rfl (fun x hx => by simp [g2]) ?_
        have e2 : sortedD (.lst false [.int (l[prv l.length k]'(prv_lt hk) : Nat), .int (l[nxt l.length k]'(nxt_lt hk) : Nat)]) = some (.lst true ((sortI ([l[prv l.length k]'(prv_lt hk), l[nxt l.length k]'(nxt_lt hk)].map fun k : Nat => (k : Int))).map D.int)) := sortedD_ints rfl
        simp [-sortedD_two, e2, -List.map_cons]
        refine condK_i (fun h => ?_) (fun h => ?_)
        · have h1 : ¬ sortI (((l.filter fun x => decide (x ∈ w.nb l[k]))).map fun k : Nat => (k : Int)) = sortI ([l[prv l.length k]'(prv_lt hk), l[nxt l.length k]'(nxt_lt hk)].map fun k : Nat => (k : Int)) := by simpa [-List.map_cons] using h
          rw [sortI_eq_iff, perm_cast] at h1
          simp
          rw [RingOf_iff, ringL_iff hw h4 hl hnd]
          exact fun h2 => h1 (h2 k hk)
        · have h1 : sortI (((l.filter fun x => decide (x ∈ w.nb l[k]))).map fun k : Nat => (k : Int)) = sortI ([l[prv l.length k]'(prv_lt hk), l[nxt l.length k]'(nxt_lt hk)].map fun k : Nat => (k : Int)) := by simpa [-List.map_cons] using h
          rw [sortI_eq_iff, perm_cast] at h1
          simp
          intro a ha hak
          by_cases hak2 : a = k
          · subst hak2; exact h1
          · exact hI a ha (by omega)
      · rintro ρ ⟨rfl, hI⟩
        simp
        rw [RingOf_iff, ringL_iff hw h4 hl hnd]
        exact fun k hk => hI k hk hk
end Mini
set_option linter.all false
set_option maxRecDepth 100000
namespace Mini
open PySem L2
/-! texts of plain things -/
def sOk (x : Str) : Prop := ∀ c ∈ x.cps.toList, c < 16 ^ 8
theorem sOk_append {a b : Str} (ha : sOk a) (hb : sOk b) : sOk (a ++ b) := by
  intro c hc
  have : (a ++ b).cps.toList = a.cps.toList ++ b.cps.toList := by
    show (a.cps ++ b.cps).toList = _
    simp
  rw [this, List.mem_append] at hc
  exact hc.elim (ha c) (hb c)
theorem sOk_of (s : String) : sOk (Str.ofString s) := by
  intro c hc
  rw [Str.ofString_eq_toList] at hc
  simp at hc
  obtain ⟨ch, _, rfl⟩ := hc
  have h := ch.valid
  have : ch.toNat < 1114112 := by
    rcases h with h | h
    · have : ch.toNat = ch.val.toNat := rfl
      omega
    · have : ch.toNat = ch.val.toNat := rfl
      omega
  omega
theorem sOk_join {sep : Str} (hs : sOk sep) : ∀ ts : List Str, (∀ t ∈ ts, sOk t) → sOk (Str.join sep ts)
  | [], _ => by
    intro c hc
    have : (Str.join sep []).cps.toList = [] := rfl
    rw [this] at hc; cases hc
  | [x], h => h x (by simp)
  | x :: y :: r, h => by
    show sOk (x ++ sep ++ Str.join sep (y :: r))
    exact sOk_append (sOk_append (h x (by simp)) hs) (sOk_join hs (y :: r) fun t ht => h t (by simp [ht]))
theorem sOk_textFrom : ∀ (ts : List Str) (k : Nat) (acc : Str), sOk acc → (∀ t ∈ ts, sOk t) → sOk (textFrom k acc ts)
  | [], _, _, h, _ => h
  | t :: ts, k, acc, h, ht => by
    unfold textFrom
    refine sOk_textFrom ts _ _ (sOk_append (sOk_append h ?_) (ht t (by simp))) fun t' h' => ht t' (by simp [h'])
    split <;> exact sOk_of _
theorem sOk_reprChar {q c : Nat} (hc : c < 16 ^ 8) : ∀ x ∈ PySem.Builtin.Str.reprChar q c, x < 16 ^ 8 := by
  have hex : ∀ (w : Nat) (x : Nat), x ∈ (let d := (Nat.toDigits 16 c).map Char.toNat; List.replicate (w - d.length) 48 ++ d) → x < 16 ^ 8 := by
    intro w x hx
    simp only [List.mem_append, List.mem_map] at hx
    rcases hx with hx | ⟨ch, _, rfl⟩
    · rw [List.mem_replicate] at hx; omega
    · have h := ch.valid
      rcases h with h | h
      · have : ch.toNat = ch.val.toNat := rfl
        omega
      · have : ch.toNat = ch.val.toNat := rfl
        omega
  intro x hx
  unfold PySem.Builtin.Str.reprChar at hx
  simp only at hx
  split at hx
  · simp at hx; omega
  split at hx
  · simp at hx; omega
  split at hx
  · simp at hx; omega
  split at hx
  · simp at hx; omega
  split at hx
  · simp at hx; omega
  split at hx
  · rw [List.mem_append] at hx
    rcases hx with hx | hx
    · simp at hx; omega
    · exact hex _ _ hx
  split at hx
  · rw [List.mem_append] at hx
    rcases hx with hx | hx
    · simp at hx; omega
    · exact hex _ _ hx
  · rw [List.mem_append] at hx
    rcases hx with hx | hx
    · simp at hx; omega
    · exact hex _ _ hx
theorem sOk_fold (q : Nat) : ∀ (l : List Nat) (acc : Array Nat), (∀ c ∈ l, c < 16 ^ 8) → (∀ c ∈ acc.toList, c < 16 ^ 8) → ∀ c ∈ (l.foldl (fun out c => out ++ (PySem.Builtin.Str.reprChar q c).toArray) acc).toList, c < 16 ^ 8
  | [], acc, _, h => h
  | a :: l, acc, h1, h2 => by
    rw [List.foldl_cons]
    refine sOk_fold q l _ (fun c hc => h1 c (by simp [hc])) ?_
    intro c hc
    simp at hc
    rcases hc with hc | hc
    · exact h2 c (by simpa using hc)
    · exact sOk_reprChar (h1 a (by simp)) c hc
theorem sOk_repr {x : Str} (h : sOk x) : sOk (reprText x) := by
  intro c hc
  unfold reprText at hc
  simp only [Array.toList_push, List.mem_append, List.mem_singleton] at hc
  have hq : reprQuote x < 16 ^ 8 := by unfold reprQuote; split <;> decide
  rcases hc with hc | rfl
  · rw [← Array.foldl_toList] at hc
    exact sOk_fold _ _ #[reprQuote x] h (by intro c hc; simp at hc; omega) c hc
  · exact hq
/-! good things: small numbers, plain texts; how long they are when they are shown -/
mutual
def good (B : Nat) : Mini.D → Prop
  | .non => True
  | .bl _ => True
  | .int i => i.natAbs < B
  | .str s => sOk s
  | .tup xs => goods B xs
  | .lst m xs => m = false ∧ goods B xs
  | .dK m ks vs => m = false ∧ (ks.all fun k => match k with | .inl i => decide (i.natAbs < B) | .inr _ => false) = true ∧ ks.length = vs.length ∧ goods B vs
  | _ => False
def goods (B : Nat) : List Mini.D → Prop
  | [] => True
  | x :: xs => good B x ∧ goods B xs
end
mutual
def W : Mini.D → Nat
  | .non => 5
  | .bl _ => 5
  | .int _ => 45
  | .str s => 10 * s.length + 2
  | .tup xs => 3 + Ws xs
  | .lst _ xs => 3 + Ws xs
  | .dK _ ks vs => 3 + 50 * ks.length + Ws vs
  | _ => 0
def Ws : List Mini.D → Nat
  | [] => 0
  | x :: xs => W x + 2 + Ws xs
end
theorem goods_iff {B : Nat} : ∀ {xs : List Mini.D}, goods B xs ↔ ∀ x ∈ xs, good B x
  | [] => by simp [goods]
  | x :: xs => by simp [goods, goods_iff (xs := xs)]
theorem Ws_eq : ∀ (xs : List Mini.D), Ws xs = (xs.map fun x => W x + 2).sum
  | [] => rfl
  | x :: xs => by simp [Ws, Ws_eq xs]
theorem Ws_append (xs ys : List Mini.D) : Ws (xs ++ ys) = Ws xs + Ws ys := by simp [Ws_eq]
theorem Ws_mem {x : Mini.D} {xs : List Mini.D} (h : x ∈ xs) : W x + 2 ≤ Ws xs := by
  induction xs with
  | nil => cases h
  | cons a xs ih =>
    rcases List.mem_cons.mp h with rfl | h
    · simp [Ws]
    · have := ih h; simp [Ws]; omega
theorem int_len {i : Int} (h : i.natAbs < 10 ^ 41) : (Str.ofString (toString i)).length ≤ 45 := by
  have := int_text_length_le10 (a := i) (k := 41) (by decide) h
  have e : (Str.ofString (toString i)).length = (toString i).length := by
    rw [Str.ofString_eq_toList]
    show ((toString i).toList.map Char.toNat).toArray.size = _
    rw [List.size_toArray, List.length_map]
    exact String.length_toList
  omega
theorem int_showable {i : Int} (h : i.natAbs < 10 ^ 41) : PyData.showable (.int i) = true := by
  simp only [PyData.showable, decide_eq_true_eq]
  have h2 : (10 : Nat) ^ 41 < 2 ^ 137 := by decide
  have h3 : i.natAbs.log2 < 137 → i.natAbs.log2 < 1920 := fun h => by omega
  apply h3
  rcases Nat.eq_zero_or_pos i.natAbs with h0 | h0
  · rw [h0]; decide
  · exact (Nat.log2_lt (by omega)).mpr (by omega)
theorem listText_len (ts : List Str) : (listText ts).length ≤ 3 + piled ts := by
  unfold listText
  rw [strLen_append]
  cases ts with
  | nil => decide
  | cons t r =>
    have e : textFrom 0 "[" (t :: r) = textFrom 1 ((("[" : Str) ++ (("" : String) : Str)) ++ t) r := rfl
    rw [e, textFrom_length_pos r 1 _ (by decide), piled_cons, strLen_append, strLen_append]
    have e1 : ((("[" : String) : Str)).length = 1 := rfl
    have e2 : ((("" : String) : Str)).length = 0 := rfl
    have e3 : ((("]" : String) : Str)).length = 1 := rfl
    omega
theorem tupleText_len (ts : List Str) : (tupleText ts).length ≤ 3 + piled ts := by
  unfold tupleText
  rw [strLen_append, strLen_append]
  have e1 : ((("(" : String) : Str)).length = 1 := rfl
  have e3 : (((if ts.length == 1 then ",)" else ")" : String) : Str)).length ≤ 2 := by split <;> decide
  by_cases h : ts = []
  · subst h
    have : (Str.join ", " ([] : List Str)).length = 0 := rfl
    omega
  · have := join_length_add ts h
    omega
theorem dictText_len (ts : List Str) : (dictText ts).length ≤ 3 + piled ts := by
  unfold dictText
  rw [strLen_append, strLen_append]
  have e1 : ((("{" : String) : Str)).length = 1 := rfl
  have e3 : ((("}" : String) : Str)).length = 1 := rfl
  by_cases h : ts = []
  · subst h
    have : (Str.join ", " ([] : List Str)).length = 0 := rfl
    omega
  · have := join_length_add ts h
    omega
end Mini
set_option linter.all false
set_option maxRecDepth 100000
namespace Mini
open PySem L2
theorem keyPy_int {i : Int} : keyPy (.inl i) = .int i := rfl
section
variable {B : Nat}
mutual
theorem shown_ok (hB : B ≤ 10 ^ 41) : ∀ d : Mini.D, good B d → sOk d.py.shown ∧ d.py.shown.length ≤ W d ∧ d.py.showable = true
  | .non, _ => ⟨sOk_of _, (show _ ≤ 5 by decide), rfl⟩
  | .bl b, _ => by cases b <;> exact ⟨sOk_of _, (show _ ≤ 5 by decide), rfl⟩
  | .int i, h => by
    simp only [good] at h
    have h' : i.natAbs < 10 ^ 41 := Nat.lt_of_lt_of_le h hB
    exact ⟨sOk_of _, int_len h', int_showable h'⟩
  | .str s, h => by
    simp only [good] at h
    exact ⟨sOk_repr h, PySem.StrLaws.reprText_len s h, rfl⟩
  | .tup xs, h => by
    simp only [good] at h
    obtain ⟨h1, h2, h3⟩ := shown_oks hB xs h
    refine ⟨?_, ?_, h3⟩
    · show sOk (tupleText _)
      unfold tupleText
      refine sOk_append (sOk_append (sOk_of _) (sOk_join (sOk_of _) _ h1)) ?_
      split <;> exact sOk_of _
    · show (tupleText _).length ≤ 3 + Ws xs
      have := tupleText_len (PyData.shownAll (D.pys xs))
      omega
  | .lst m xs, h => by
    simp only [good] at h
    obtain ⟨h1, h2, h3⟩ := shown_oks hB xs h.2
    refine ⟨?_, ?_, h3⟩
    · show sOk (listText _)
      unfold listText
      exact sOk_append (sOk_textFrom _ _ _ (sOk_of _) h1) (sOk_of _)
    · show (listText _).length ≤ 3 + Ws xs
      have := listText_len (PyData.shownAll (D.pys xs))
      omega
  | .dK m ks vs, h => by
    simp only [good] at h
    obtain ⟨h1, h2, h3⟩ := shown_okv hB ks vs h.2.2.1 h.2.1 h.2.2.2
    refine ⟨?_, ?_, h3⟩
    · show sOk (dictText _)
      unfold dictText
      exact sOk_append (sOk_append (sOk_of _) (sOk_join (sOk_of _) _ h1)) (sOk_of _)
    · show (dictText _).length ≤ 3 + 50 * ks.length + Ws vs
      have := dictText_len (PyData.shownKv ((ks.map keyPy).zip (D.pys vs)))
      omega
  | .raw xs, h => by simp only [good] at h
  | .dT m ks vs, h => by simp only [good] at h
  | .scr ns, h => by simp only [good] at h
theorem shown_oks (hB : B ≤ 10 ^ 41) : ∀ xs : List Mini.D, goods B xs → (∀ t ∈ PyData.shownAll (D.pys xs), sOk t) ∧ piled (PyData.shownAll (D.pys xs)) ≤ Ws xs ∧ PyData.showableAll (D.pys xs) = true
  | [], _ => ⟨fun t ht => by simp [D.pys, PyData.shownAll, PyData.shownKv] at ht, Nat.le_refl _, rfl⟩
  | x :: xs, h => by
    simp only [goods] at h
    obtain ⟨a1, a2, a3⟩ := shown_ok hB x h.1
    obtain ⟨b1, b2, b3⟩ := shown_oks hB xs h.2
    simp only [D.pys, PyData.shownAll, PyData.showableAll, a3, b3, piled_cons, Ws]
    refine ⟨?_, by omega, rfl⟩
    intro t ht
    rcases List.mem_cons.mp ht with rfl | ht
    · exact a1
    · exact b1 t ht
theorem shown_okv (hB : B ≤ 10 ^ 41) : ∀ (ks : List Key) (vs : List Mini.D), ks.length = vs.length → (ks.all fun k => match k with | .inl i => decide (i.natAbs < B) | .inr _ => false) = true → goods B vs →
    (∀ t ∈ PyData.shownKv ((ks.map keyPy).zip (D.pys vs)), sOk t) ∧ piled (PyData.shownKv ((ks.map keyPy).zip (D.pys vs))) ≤ 50 * ks.length + Ws vs ∧ PyData.showableKv ((ks.map keyPy).zip (D.pys vs)) = true
  | [], [], _, _, _ => ⟨fun t ht => by simp [D.pys, PyData.shownAll, PyData.shownKv] at ht, Nat.le_refl _, rfl⟩
  | k :: ks, [], h, _, _ => by simp at h
  | [], v :: vs, h, _, _ => by simp at h
  | k :: ks, v :: vs, h, hk, hv => by
    simp only [goods] at hv
    rw [List.all_cons, Bool.and_eq_true] at hk
    obtain ⟨a1, a2, a3⟩ := shown_ok hB v hv.1
    obtain ⟨b1, b2, b3⟩ := shown_okv hB ks vs (by simpa using h) hk.2 hv.2
    cases k with
    | inr s => cases hk.1
    | inl i =>
      have hi : i.natAbs < 10 ^ 41 := Nat.lt_of_lt_of_le (by simpa using hk.1) hB
      simp only [D.pys, List.map_cons, List.zip_cons_cons, keyPy_int, PyData.shownKv, PyData.showableKv, a3, b3, piled_cons, Ws, int_showable hi, List.length_cons]
      have e : (PyData.shown (.int i) ++ ((": " : String) : Str) ++ v.py.shown).length = (PyData.shown (.int i)).length + 2 + v.py.shown.length := by
        rw [strLen_append, strLen_append]; rfl
      have e2 : (PyData.shown (.int i)).length ≤ 45 := int_len hi
      refine ⟨?_, by omega, rfl⟩
      intro t ht
      rcases List.mem_cons.mp ht with rfl | ht
      · exact sOk_append (sOk_append (sOk_of _) (sOk_of _)) a1
      · exact b1 t ht
end
end
/-- a thing that may be handed in anywhere: good, at most w signs when it is shown, at most k deep -/
structure Th (B w k : Nat) (d : Mini.D) : Prop where
  g : good B d
  w : W d ≤ w
  k : d.py.depth ≤ k
mutual
theorem good_mono {B B' : Nat} (hB : B ≤ B') : ∀ d : Mini.D, good B d → good B' d
  | .non, h => by simp only [good]
  | .bl _, h => by simp only [good]
  | .int i, h => by simp only [good] at *; omega
  | .str s, h => by simpa only [good] using h
  | .tup xs, h => by simp only [good] at *; exact goods_mono hB xs h
  | .lst m xs, h => by simp only [good] at *; exact ⟨h.1, goods_mono hB xs h.2⟩
  | .dK m ks vs, h => by
    simp only [good] at *
    refine ⟨h.1, ?_, h.2.2.1, goods_mono hB vs h.2.2.2⟩
    rw [List.all_eq_true] at *
    intro k hk
    have := h.2.1 k hk
    cases k with
    | inl i => simp at *; omega
    | inr s => exact this
  | .raw xs, h => by simp only [good] at h
  | .dT m ks vs, h => by simp only [good] at h
  | .scr ns, h => by simp only [good] at h
theorem goods_mono {B B' : Nat} (hB : B ≤ B') : ∀ xs : List Mini.D, goods B xs → goods B' xs
  | [], _ => by simp only [goods]
  | x :: xs, h => by simp only [goods] at *; exact ⟨good_mono hB x h.1, goods_mono hB xs h.2⟩
end
theorem Th.mono {B B' w k w' k' : Nat} {d : Mini.D} (h : Th B w k d) (hB : B ≤ B') (hw : w ≤ w') (hk : k ≤ k') : Th B' w' k' d := ⟨good_mono hB d h.g, Nat.le_trans h.w hw, Nat.le_trans h.k hk⟩
theorem good_pure {B : Nat} : ∀ {d : Mini.D}, good B d → d.pure = true
  | .non, _ => rfl
  | .bl _, _ => rfl
  | .int _, _ => rfl
  | .str _, _ => rfl
  | .tup _, _ => rfl
  | .raw _, _ => rfl
  | .scr _, _ => rfl
  | .lst m xs, h => by simp only [good] at h; simp [h.1]
  | .dK m ks vs, h => by simp only [good] at h; simp [h.1]
  | .dT m ks vs, h => by simp only [good] at h
theorem goods_pures {B : Nat} {xs : List Mini.D} (h : goods B xs) : D.pures xs = true := pures_iff.mpr fun x hx => good_pure (goods_iff.mp h x hx)
theorem depthAll_le {k : Nat} : ∀ {xs : List Mini.D}, PyData.depthAll (D.pys xs) ≤ k ↔ ∀ x ∈ xs, x.py.depth ≤ k
  | [] => by simp [D.pys, PyData.depthAll]
  | x :: xs => by simp [D.pys, PyData.depthAll, Nat.max_le, depthAll_le (xs := xs)]
theorem depth_tup {xs : List Mini.D} : (D.tup xs).py.depth = PyData.depthAll (D.pys xs) + 1 := by simp [D.py, PyData.depth]
theorem depth_lst {m : Bool} {xs : List Mini.D} : (D.lst m xs).py.depth = PyData.depthAll (D.pys xs) + 1 := by simp [D.py, PyData.depth]
theorem depth_done {k : Int} {v : Mini.D} : (D.dK false [.inl k] [v]).py.depth = v.py.depth + 1 := by simp [D.py, D.pys, PyData.depth, PyData.depthKv, keyPy]
/-- what repr gives -/
theorem repr_ok {B w k : Nat} {d : Mini.D} (h : Th B w k d) (hB : B ≤ 10 ^ 41) (hk : k ≤ 64) (hw : w ≤ 16000000) : b1D .repr d = some (.str d.py.shown) := by
  obtain ⟨h1, h2, h3⟩ := shown_ok hB d h.g
  have e1 := good_pure h.g
  have e2 := h.k
  have e3 := h.w
  show (if (d.pure && d.py.showable && decide (d.py.depth ≤ 64) && decide (d.py.shown.length ≤ sizeLine)) = true then some (D.str d.py.shown) else none) = _
  rw [if_pos]
  simp only [e1, h3, Bool.true_and, Bool.and_eq_true, decide_eq_true_eq]
  exact ⟨by omega, by rw [sizeLine_eq]; omega⟩
theorem str_ok {B w k : Nat} {d : Mini.D} (h : Th B w k d) (hB : B ≤ 10 ^ 41) (hk : k ≤ 64) (hw : w ≤ 16000000) : ∃ s, b1D .str d = some (.str s) ∧ sOk s ∧ s.length ≤ w := by
  obtain ⟨h1, h2, h3⟩ := shown_ok hB d h.g
  have e1 := good_pure h.g
  have e2 := h.k
  have e3 := h.w
  refine ⟨strD d, ?_, ?_, ?_⟩
  · show (if (d.pure && d.py.showable && decide (d.py.depth ≤ 64) && decide (d.py.shown.length ≤ sizeLine)) = true then some (D.str (strD d)) else none) = _
    rw [if_pos]
    simp only [e1, h3, Bool.true_and, Bool.and_eq_true, decide_eq_true_eq]
    exact ⟨by omega, by rw [sizeLine_eq]; omega⟩
  · unfold strD
    split
    · have := h.g; simpa only [good] using this
    · exact h1
  · unfold strD
    split
    · simp only [W] at e3; omega
    · omega
@[simp] theorem shp_str {s : Str} : shp (.str s) = true := by simp [shp, PyData.plain, PyData.depth]
@[simp] theorem eqD_str {s z : Str} : eqD (.str s) (.str z) = some (s == z) := by
  simp only [eqD, D.py, shp_str, Bool.and_self, if_true, PyData.eqv]
end Mini
set_option linter.all false
set_option maxRecDepth 100000
namespace Mini
open PySem L2
mutual
/-- at most n items in it, and in each tuple of it -/
def topN (n : Nat) : Mini.D → Prop
  | .tup xs => xs.length ≤ n ∧ topNs n xs
  | _ => True
def topNs (n : Nat) : List Mini.D → Prop
  | [] => True
  | x :: xs => topN n x ∧ topNs n xs
end
theorem topNs_iff {n : Nat} : ∀ {xs : List Mini.D}, topNs n xs ↔ ∀ x ∈ xs, topN n x
  | [] => by simp [topNs]
  | x :: xs => by simp [topNs, topNs_iff (xs := xs)]
theorem topN_tup {n : Nat} {xs : List Mini.D} : topN n (.tup xs) ↔ xs.length ≤ n ∧ ∀ x ∈ xs, topN n x := by
  rw [topN, topNs_iff]
mutual
theorem topN_mono {n m : Nat} (hm : n ≤ m) : ∀ (d : Mini.D), topN n d → topN m d
  | .tup xs, h => by simp only [topN] at *; exact ⟨by omega, topNs_mono hm xs h.2⟩
  | .non, _ => by simp only [topN]
  | .bl _, _ => by simp only [topN]
  | .int _, _ => by simp only [topN]
  | .str _, _ => by simp only [topN]
  | .raw _, _ => by simp only [topN]
  | .scr _, _ => by simp only [topN]
  | .lst _ _, _ => by simp only [topN]
  | .dK _ _ _, _ => by simp only [topN]
  | .dT _ _ _, _ => by simp only [topN]
theorem topNs_mono {n m : Nat} (hm : n ≤ m) : ∀ (xs : List Mini.D), topNs n xs → topNs m xs
  | [], _ => by simp only [topNs]
  | x :: xs, h => by simp only [topNs] at *; exact ⟨topN_mono hm x h.1, topNs_mono hm xs h.2⟩
end
theorem topN_sub {n m : Nat} {xs ys : List Mini.D} (h : topN n (.tup xs)) (hs : ∀ y ∈ ys, y ∈ xs ∨ y = .int 0) (hl : ys.length ≤ m) (hm : n ≤ m) : topN m (.tup ys) := by
  refine topN_tup.mpr ⟨hl, fun y hy => ?_⟩
  rcases hs y hy with h2 | rfl
  · exact topN_mono hm _ ((topN_tup.mp h).2 y h2)
  · simp only [topN]
theorem topN_nats {n : Nat} {l : List Nat} (h : l.length ≤ n) : topN n (.tup (natsD l)) := by
  refine topN_tup.mpr ⟨by simpa using h, fun x hx => ?_⟩
  obtain ⟨k, _, rfl⟩ := List.mem_map.mp hx
  simp only [topN]
theorem Th.thing {B w k n : Nat} {d : Mini.D} (h : Th B w k d) (hn : topN n d) (hn2 : n ≤ 1000) : Thing d := by
  refine ⟨good_pure h.g, ?_⟩
  have hg := h.g
  cases d with
  | raw xs => simp only [good] at hg
  | scr xs => simp only [good] at hg
  | tup xs =>
    simp only [good] at hg
    exact ⟨Nat.le_trans (topN_tup.mp hn).1 hn2, fun x hx => good_pure (goods_iff.mp hg x hx)⟩
  | _ => trivial
def OddS (F : List Mini.D → Cr) : Prop := ∀ (d : Dk) (t : Mini.D) (B w k n : Nat), d.ok → Th B w k t → topN n t → 10 ^ 40 ≤ B → B ≤ 10 ^ 41 → k ≤ 60 → w ≤ 1000000 → (F [d.D, t]).S (fun r o => ∃ (d' : Dk), Th B (10 * w + 300) (k + 2) r ∧ topN (n + 3) r ∧ d'.ok ∧ o = [d'.D]) noX
theorem Th.cons1 {B w k : Nat} {t : Mini.D} (h : Th B w k t) : Th B (10 * w + 300) (k + 2) (.tup [t]) := by
  refine ⟨?_, ?_, ?_⟩
  · simp only [good, goods]; exact ⟨h.g, trivial⟩
  · simp only [W, Ws]; have := h.w; omega
  · rw [depth_tup]; have := h.k; simp [D.pys, PyData.depthAll]; omega
theorem Th.lst1 {B w k : Nat} {t : Mini.D} (h : Th B w k t) : Th B (10 * w + 300) (k + 2) (.lst false [t]) := by
  refine ⟨?_, ?_, ?_⟩
  · simp only [good, goods]; exact ⟨trivial, h.g, trivial⟩
  · simp only [W, Ws]; have := h.w; omega
  · rw [depth_lst]; have := h.k; simp [D.pys, PyData.depthAll]; omega
theorem Th.dct1 {B w k : Nat} {t : Mini.D} (h : Th B w k t) (hB : 0 < B) : Th B (10 * w + 300) (k + 2) (.dK false [.inl 0] [t]) := by
  refine ⟨?_, ?_, ?_⟩
  · simp only [good, goods]; exact ⟨trivial, by simpa using hB, rfl, h.g, trivial⟩
  · simp only [W, Ws, List.length_cons, List.length_nil]; have := h.w; omega
  · rw [depth_done]; have := h.k; omega
theorem Th.str {B w k : Nat} {s : Str} (h : sOk s) (hl : s.length ≤ w) : Th B (10 * w + 300) (k + 2) (.str s) := by
  refine ⟨by simpa only [good] using h, by simp only [W]; omega, by simp [D.py, PyData.depth]⟩
theorem Th.int {B w k : Nat} {i : Int} (h : i.natAbs < B) (hw : 45 ≤ w) : Th B w k (.int i) := ⟨by simpa only [good] using h, by simp only [W]; omega, by simp [D.py, PyData.depth]⟩
theorem Th.bl {B w k : Nat} {b : Bool} (hw : 5 ≤ w) : Th B w k (.bl b) := ⟨by simp only [good], by simp only [W]; omega, by simp [D.py, PyData.depth]⟩
theorem atI_mem {α : Type} {xs : List α} {i : Int} (h : 0 ≤ i) (h2 : i < xs.length) : ∃ x, atI xs i = some x ∧ x ∈ xs := ⟨_, atI_some h h2, List.getElem_mem _⟩
theorem odd_ok {Φ : Phi} {f : Nat} (hd : DrawS (Φ f)) : OddS (rF Φ (f_law_odd f)) := by
  intro d t B w k n hd0 ht htn hB hB2 hk hw
  have hB0 : 0 < B := by omega
  refine S_def rfl ?_
  have htp := good_pure ht.g
  obtain ⟨s, es, hs1, hs2⟩ := str_ok ht hB2 (by omega) (by omega)
  simp [f_law_odd, CF.start, htp, es, sizeLine_eq]
  refine Cr.S_use (hd d _ hd0 (by omega) (by omega)) ?_
  rintro _ _ ⟨i, d, rfl, i1, i2, hd0, rfl⟩
  have all : ∀ x ∈ [Mini.D.non, D.str (Str.ofString ""), D.str (Str.ofString "order"), D.str (Str.ofString "ring"), D.tup [], D.lst false [], D.dK false [] [], D.lst false [t], D.tup [t], D.dK false [Sum.inl 0] [t], D.lst false [D.int 0], D.bl true, D.bl false, D.int (-1), D.int 1000000000000000000000000000000000000000, D.int (-1000000000000000000000000000000000000000), D.tup [D.str (Str.ofString "order")], D.tup [D.str (Str.ofString "ring"), D.tup []], D.str s, D.int 0, D.tup [D.tup [D.int 0, D.int 1], D.tup [D.int 1, D.int 2]]], Th B (10 * w + 300) (k + 2) x ∧ topN (n + 3) x := by
    have l1 : (Str.ofString "").length = 0 := by rw [Str.ofString_eq_toList]; rfl
    have l2 : (Str.ofString "order").length = 5 := by rw [Str.ofString_eq_toList]; rfl
    have l3 : (Str.ofString "ring").length = 4 := by rw [Str.ofString_eq_toList]; rfl
    have o1 := sOk_of ""
    have o2 := sOk_of "order"
    have o3 := sOk_of "ring"
    intro x hx
    simp only [List.mem_cons, List.not_mem_nil, or_false] at hx
    rcases hx with rfl | rfl | rfl | rfl | rfl | rfl | rfl | rfl | rfl | rfl | rfl | rfl | rfl | rfl | rfl | rfl | rfl | rfl | rfl | rfl | rfl
    · exact ⟨⟨by simp only [good], by simp only [W]; omega, by simp [D.py, PyData.depth]⟩, trivial⟩
    · exact ⟨⟨by simpa only [good] using o1, by simp only [W]; omega, by simp [D.py, PyData.depth]⟩, trivial⟩
    · exact ⟨⟨by simpa only [good] using o2, by simp only [W]; omega, by simp [D.py, PyData.depth]⟩, trivial⟩
    · exact ⟨⟨by simpa only [good] using o3, by simp only [W]; omega, by simp [D.py, PyData.depth]⟩, trivial⟩
    · exact ⟨⟨by simp only [good, goods], by simp only [W, Ws]; omega, by simp [D.py, D.pys, PyData.depth, PyData.depthAll]⟩, by simp [topN, topNs]⟩
    · exact ⟨⟨by simp [good, goods] <;> omega, by simp only [W, Ws]; omega, by simp [D.py, D.pys, PyData.depth, PyData.depthAll]⟩, trivial⟩
    · exact ⟨⟨by simp [good, goods], by simp only [W, Ws, List.length_nil]; omega, by simp [D.py, D.pys, PyData.depth, PyData.depthKv]⟩, trivial⟩
    · exact ⟨ht.lst1, trivial⟩
    · exact ⟨ht.cons1, topN_tup.mpr ⟨by simp, fun x hx => by rw [List.mem_singleton.mp hx]; exact topN_mono (by omega) _ htn⟩⟩
    · exact ⟨ht.dct1 hB0, trivial⟩
    · exact ⟨⟨by simp [good, goods] <;> omega, by simp only [W, Ws]; omega, by simp [D.py, D.pys, PyData.depth, PyData.depthAll]⟩, trivial⟩
    · exact ⟨Th.bl (by omega), trivial⟩
    · exact ⟨Th.bl (by omega), trivial⟩
    · exact ⟨Th.int (by omega) (by omega), trivial⟩
    · exact ⟨Th.int (by omega) (by omega), trivial⟩
    · exact ⟨Th.int (by omega) (by omega), trivial⟩
    · exact ⟨⟨by simpa [good, goods] using o2, by simp only [W, Ws]; omega, by simp [D.py, D.pys, PyData.depth, PyData.depthAll]⟩, by simp [topN, topNs]⟩
    · exact ⟨⟨by simpa [good, goods] using o3, by simp only [W, Ws]; omega, by simp [D.py, D.pys, PyData.depth, PyData.depthAll]⟩, by simp [topN, topNs]⟩
    · exact ⟨Th.str hs1 hs2, trivial⟩
    · exact ⟨Th.int (by omega) (by omega), trivial⟩
    · exact ⟨⟨by simp [good, goods] <;> omega, by simp only [W, Ws]; omega, by simp [D.py, D.pys, PyData.depth, PyData.depthAll]⟩, by simp [topN, topNs]⟩
  obtain ⟨x, e, hx⟩ := atI_mem (xs := [Mini.D.non, D.str (Str.ofString ""), D.str (Str.ofString "order"), D.str (Str.ofString "ring"), D.tup [], D.lst false [], D.dK false [] [], D.lst false [t], D.tup [t], D.dK false [Sum.inl 0] [t], D.lst false [D.int 0], D.bl true, D.bl false, D.int (-1), D.int 1000000000000000000000000000000000000000, D.int (-1000000000000000000000000000000000000000), D.tup [D.str (Str.ofString "order")], D.tup [D.str (Str.ofString "ring"), D.tup []], D.str s, D.int 0, D.tup [D.tup [D.int 0, D.int 1], D.tup [D.int 1, D.int 2]]]) i1 (by simpa using i2)
  obtain ⟨h1, h2⟩ := all x hx
  have hxp := good_pure h1.g
  simp [e, hxp]
  exact ⟨h1, h2, d, hd0, rfl⟩
end Mini
set_option linter.all false
set_option maxRecDepth 100000
namespace Mini
open PySem L2
def SpoiltS (K : Nat) (F : List Mini.D → Cr) : Prop := ∀ (d : Dk) (t : Mini.D) (B w k n : Nat), d.ok → Th B w k t → topN n t → n ≤ 1000000 → k < K → K ≤ 60 → w ≤ 1000000 → 10 ^ 40 ≤ B → B < 10 ^ 41 → (F [d.D, t]).S (fun r o => ∃ (d' : Dk), Th (B + 1) (12 * w + 600) (k + 2) r ∧ topN (n + 3) r ∧ d'.ok ∧ o = [d'.D]) noX
theorem spoilt_zero {F : List Mini.D → Cr} : SpoiltS 0 F := fun _ _ _ _ _ _ _ _ _ _ h => absurd h (Nat.not_lt_zero _)
theorem Ws_take (xs : List Mini.D) (i : Nat) : Ws (xs.take i) ≤ Ws xs := by
  have := Ws_append (xs.take i) (xs.drop i)
  rw [List.take_append_drop] at this
  omega
theorem Ws_drop (xs : List Mini.D) (i : Nat) : Ws (xs.drop i) ≤ Ws xs := by
  have := Ws_append (xs.take i) (xs.drop i)
  rw [List.take_append_drop] at this
  omega
theorem Ws_rev : ∀ (xs : List Mini.D), Ws xs.reverse = Ws xs
  | [] => rfl
  | x :: xs => by simp only [List.reverse_cons, Ws_append, Ws_rev xs, Ws]; omega
theorem Ws_len (xs : List Mini.D) : 2 * xs.length ≤ Ws xs := by
  induction xs with
  | nil => exact Nat.le_refl _
  | cons x xs ih => simp only [Ws, List.length_cons]; omega
theorem cut_to1 {α : Type} {xs : List α} {a : Nat} : cutD xs none (some ((a : Int) + 1)) = xs.take (a + 1) := cutD_to (k := a + 1)
theorem cut_from1 {α : Type} {xs : List α} {a : Nat} : cutD xs (some ((a : Int) + 1)) none = xs.drop (a + 1) := cutD_from (k := a + 1)
theorem cut_from2 {α : Type} {xs : List α} {a : Nat} : cutD xs (some ((a : Int) + 2)) none = xs.drop (a + 2) := cutD_from (k := a + 2)
theorem cut_mid {α : Type} {xs : List α} {a b : Nat} : ∃ ys : List α, cutD xs (some (a : Int)) (some (b : Int)) = ys ∧ (∀ y ∈ ys, y ∈ xs) ∧ ∃ c d, ys = (xs.drop c).take d := by
  refine ⟨_, rfl, fun y hy => ?_, _, _, rfl⟩
  exact List.mem_of_mem_drop (List.mem_of_mem_take hy)
theorem cut_two {α : Type} {xs two : List α} {a : Nat} (h : cutD xs (some (a : Int)) (some ((a : Int) + 2)) = two) : two.length ≤ 2 ∧ min a xs.length + two.length ≤ xs.length := by
  have e : cutD xs (some (a : Int)) (some ((a + 2 : Nat) : Int)) = two := h
  rw [← e]
  simp only [cutD, HT.sIx_nat, List.length_take, List.length_drop]
  omega
/-- a tuple, a list of things of xs -/
theorem Th.sub {B w k : Nat} {xs ys : List Mini.D} (hg : goods B xs) (hk : PyData.depthAll (D.pys xs) + 1 ≤ k) (hs : ∀ y ∈ ys, y ∈ xs ∨ y = .int 0) (hB : 0 < B) (hw : 3 + Ws ys ≤ w) : Th B w (k + 2) (.tup ys) := by
  refine ⟨?_, by simpa only [W] using hw, ?_⟩
  · simp only [good]
    refine goods_iff.mpr fun y hy => ?_
    rcases hs y hy with h | rfl
    · exact goods_iff.mp hg y h
    · simpa [good] using hB
  · rw [depth_tup]
    have : PyData.depthAll (D.pys ys) ≤ PyData.depthAll (D.pys xs) := depthAll_le.mpr fun y hy => by
      rcases hs y hy with h | rfl
      · exact depthAll_le.mp (Nat.le_refl _) y h
      · simp [D.py, PyData.depth]
    omega
@[simp] theorem eqD_bli {b : Bool} {i : Int} : eqD (.bl b) (.int i) = some (decide ((if b then 1 else 0) = i)) := by
  simp only [eqD, D.py, shaped_int, shaped_bool, Bool.and_self, if_true, PyData.eqv]
  cases b <;> rfl
theorem spoilt_succ {Φ : Phi} {fd fs fo K : Nat} (hd : DrawS (Φ fd)) (ho : OddS (Φ fo)) (hs : SpoiltS K (Φ fs)) : SpoiltS (K + 1) (rF Φ (f_law_spoilt fd fs fo)) := by
  intro d t B w k n hd0 ht hn hn2 hk hK hw hB hB2
  refine S_def rfl ?_
  have htp := good_pure ht.g
  simp [f_law_spoilt, CF.start, htp]
  refine Cr.S_use (hd d _ hd0 (by omega) (by omega)) ?_
  rintro _ _ ⟨way, d, rfl, y1, y2, hd0, rfl⟩
  simp
  refine Rx.S_mid (fun fl ρ => (fl = .next ∧ ρ = [some d.D, some t, some (.int way), none, none, none]) ∨ ∃ r d', fl = .ret r ∧ getS ρ 0 = some (Dk.D d') ∧ Th (B + 1) (12 * w + 600) (k + 2) r ∧ topN (n + 3) r ∧ d'.ok) ?_ ?_
  · by_cases hti : ∃ xs, t = .tup xs
    · obtain ⟨xs, rfl⟩ := hti
      have hlen : xs.length ≤ n := (topN_tup.mp hn).1
      have hgs : goods B xs := by have := ht.g; simpa only [good] using this
      have hpp := goods_pures hgs
      have hws : 3 + Ws xs ≤ w := by have := ht.w; simpa only [W] using this
      have hdp : PyData.depthAll (D.pys xs) + 1 ≤ k := by have := ht.k; rwa [depth_tup] at this
      simp [isiD, SS_ifs]
      refine condK_i (fun h => ?_) (fun h => ?_)
      · simp at h
        have hx0 : 0 < xs.length := List.length_pos_iff.mpr h
        simp
        refine condK_i (fun h5 => ?_) (fun h5 => ?_)
        · simp
          refine Cr.S_use (hd d _ hd0 (by omega) (by omega)) ?_
          rintro _ _ ⟨at_, d, rfl, a1, a2, hd0, rfl⟩
          obtain ⟨a, rfl⟩ := Int.eq_ofNat_of_zero_le a1
          have ha : a < xs.length := by omega
          have ea : atI xs (a : Int) = some xs[a] := by rw [atI_nat, List.getElem?_eq_getElem ha]
          have hm : xs[a] ∈ xs := List.getElem_mem ha
          have hga := goods_iff.mp hgs _ hm
          have hpa := good_pure hga
          simp [cutD_to, ea, hpa]
          have hwa := Ws_mem hm
          have hta : Th B (W xs[a]) (k - 1) xs[a] := ⟨hga, Nat.le_refl _, by have := depthAll_le.mp (Nat.le_refl _) _ hm; omega⟩
          have htn : topN n xs[a] := (topN_tup.mp hn).2 _ hm
          refine Cr.S_use (hs d _ B _ _ _ hd0 hta htn (by omega) (by omega) (by omega) (by omega) hB hB2) ?_
          rintro r _ ⟨d, hr, hrn, hd0, rfl⟩
          have hrp := good_pure hr.g
          have z0 := Ws_len xs
          have z1 : min a xs.length + 1 ≤ 16777216 := by omega
          have z2 : min a xs.length + (xs.length - (a + 1) + 1) ≤ 16777216 := by omega
          simp [hrp, sizeLine_eq, z1, z2, cut_from1]
          refine ⟨by omega, d, rfl, ⟨?_, ?_, ?_⟩, ?_, hd0⟩
          · simp only [good]
            refine goods_iff.mpr fun y hy => ?_
            rw [List.mem_append, List.mem_cons] at hy
            rcases hy with hy | rfl | hy
            · exact good_mono (by omega) _ (goods_iff.mp hgs _ (List.mem_of_mem_take hy))
            · exact hr.g
            · exact good_mono (by omega) _ (goods_iff.mp hgs _ (List.mem_of_mem_drop hy))
          · simp only [W, Ws_append, Ws]
            have e := Ws_append (xs.take a) (xs.drop a)
            rw [List.take_append_drop, List.drop_eq_getElem_cons ha] at e
            simp only [Ws] at e
            have := hr.w
            omega
          · rw [depth_tup]
            have : PyData.depthAll (D.pys (xs.take a ++ r :: xs.drop (a + 1))) ≤ k + 1 := depthAll_le.mpr fun y hy => by
              rw [List.mem_append, List.mem_cons] at hy
              rcases hy with hy | rfl | hy
              · have := depthAll_le.mp (Nat.le_refl _) _ (List.mem_of_mem_take hy); omega
              · have := hr.k; omega
              · have := depthAll_le.mp (Nat.le_refl _) _ (List.mem_of_mem_drop hy); omega
            omega
          · refine topN_tup.mpr ⟨by simp; omega, fun y hy => ?_⟩
            rw [List.mem_append, List.mem_cons] at hy
            rcases hy with hy | rfl | hy
            · exact topN_mono (by omega) _ ((topN_tup.mp hn).2 _ (List.mem_of_mem_take hy))
            · exact hrn
            · exact topN_mono (by omega) _ ((topN_tup.mp hn).2 _ (List.mem_of_mem_drop hy))
        · simp
      · simp at h
        simp
    · have hti2 : isiD .tuple t = false := by
        cases t with
        | tup xs => exact absurd ⟨xs, rfl⟩ hti
        | raw xs => have := ht.g; simp only [good] at this
        | _ => rfl
      simp [htp, hti2, SS_ifs]
  rintro fl ρ (⟨rfl, rfl⟩ | ⟨r, d', rfl, hg, hr, hrn, hd0⟩)
  · by_cases hti : ∃ xs, t = .tup xs
    · obtain ⟨xs, rfl⟩ := hti
      have hlen : xs.length ≤ n := (topN_tup.mp hn).1
      have hgs : goods B xs := by have := ht.g; simpa only [good] using this
      have hpp := goods_pures hgs
      have hws : 3 + Ws xs ≤ w := by have := ht.w; simpa only [W] using this
      have hdp : PyData.depthAll (D.pys xs) + 1 ≤ k := by have := ht.k; rwa [depth_tup] at this
      have htT : Th (B + 1) (12 * w + 600) (k + 2) (.tup xs) := ht.mono (by omega) (by omega) (by omega)
      simp [isiD, SS_ifs]
      refine Cr.S_use (hd d _ hd0 (by omega) (by omega)) ?_
      rintro _ _ ⟨at_, d, rfl, a1, a2, hd0, rfl⟩
      obtain ⟨a, rfl⟩ := Int.eq_ofNat_of_zero_le a1
      obtain ⟨two, e2, _, c, dd, ec⟩ := cut_mid (xs := xs) (a := a) (b := a + 2)
      have e2' : cutD xs (some (a : Int)) (some ((a : Int) + 2)) = two := e2
      have l0 : two.length ≤ xs.length := by rw [ec]; simp; omega
      have w0 : Ws two ≤ Ws xs := by rw [ec]; exact Nat.le_trans (Ws_take _ _) (Ws_drop _ _)
      have m0 : ∀ y ∈ two, y ∈ xs := by rw [ec]; exact fun y hy => List.mem_of_mem_drop (List.mem_of_mem_take hy)
      have hsz : xs.length < 1000001 := by omega
      have s1 : min a xs.length + (xs.length - (a + 1)) ≤ 16777216 := by omega
      have s2 : min (a + 1) xs.length + (xs.length - a) ≤ 16777216 := by omega
      have s3 : min a xs.length + two.length ≤ 16777216 := by omega
      have s4 : min a xs.length + (two.length + (xs.length - (a + 2))) ≤ 16777216 := by omega
      have s5 : xs.length + 1 ≤ 16777216 := by omega
      simp [e2', cutD_to, cutD_from, cut_to1, cut_from1, cut_from2, sizeLine_eq, s1, s2, s3, s4, s5]
      refine ⟨by omega, ?_⟩
      refine Cr.S_use (hd d _ hd0 (by omega) (by omega)) ?_
      rintro _ _ ⟨j, d, rfl, j1, j2, hd0, rfl⟩
      have hB0 : 0 < B := by omega
      have wt : ∀ i, Ws (xs.take i) ≤ Ws xs := Ws_take xs
      have wd : ∀ i, Ws (xs.drop i) ≤ Ws xs := Ws_drop xs
      have all : ∀ x ∈ [Mini.D.tup (List.take a xs ++ List.drop (a + 1) xs), D.tup (List.take (a + 1) xs ++ List.drop a xs), D.tup (List.take a xs ++ (two.reverse ++ List.drop (a + 2) xs)), D.lst false (D.frzs xs), D.tup xs.reverse, D.tup (xs ++ [D.int 0]), D.tup [D.tup xs]], Th (B + 1) (12 * w + 600) (k + 2) x ∧ topN (n + 3) x := by
        intro x hx
        simp only [List.mem_cons, List.not_mem_nil, or_false] at hx
        have up : ∀ {x : Mini.D}, Th B (12 * w + 600) (k + 2) x → Th (B + 1) (12 * w + 600) (k + 2) x := fun h => h.mono (by omega) (Nat.le_refl _) (Nat.le_refl _)
        rcases hx with rfl | rfl | rfl | rfl | rfl | rfl | rfl
        · refine ⟨up (Th.sub hgs hdp (fun y hy => ?_) hB0 ?_), topN_sub hn (fun y hy => Or.inl ((List.mem_append.mp hy).elim List.mem_of_mem_take List.mem_of_mem_drop)) (by simp; omega) (by omega)⟩
          · rw [List.mem_append] at hy
            exact Or.inl (hy.elim List.mem_of_mem_take List.mem_of_mem_drop)
          · rw [Ws_append]; have := wt a; have := wd (a + 1); omega
        · refine ⟨up (Th.sub hgs hdp (fun y hy => ?_) hB0 ?_), topN_sub hn (fun y hy => Or.inl ((List.mem_append.mp hy).elim List.mem_of_mem_take List.mem_of_mem_drop)) (by simp; omega) (by omega)⟩
          · rw [List.mem_append] at hy
            exact Or.inl (hy.elim List.mem_of_mem_take List.mem_of_mem_drop)
          · rw [Ws_append]; have := wt (a + 1); have := wd a; omega
        · have l3 : two.length ≤ 2 ∨ True := Or.inr trivial
          refine ⟨up (Th.sub hgs hdp (fun y hy => ?_) hB0 ?_), ?_⟩
          · rw [List.mem_append, List.mem_append, List.mem_reverse] at hy
            exact Or.inl (hy.elim List.mem_of_mem_take fun h => h.elim (m0 y) List.mem_of_mem_drop)
          · rw [Ws_append, Ws_append, Ws_rev]; have := wt a; have := wd (a + 2); omega
          · have l4 := cut_two e2'
            refine topN_sub hn (fun y hy => ?_) (by simp; omega) (by omega)
            rw [List.mem_append, List.mem_append, List.mem_reverse] at hy
            exact Or.inl (hy.elim List.mem_of_mem_take fun h => h.elim (m0 y) List.mem_of_mem_drop)
        · rw [frzs_of_pures hpp]
          refine ⟨⟨?_, ?_, ?_⟩, trivial⟩
          · simp only [good]; exact ⟨trivial, goods_mono (by omega) _ hgs⟩
          · simp only [W]; omega
          · rw [depth_lst]; omega
        · refine ⟨up (Th.sub hgs hdp (fun y hy => Or.inl (by simpa using hy)) hB0 ?_), topN_sub hn (fun y hy => Or.inl (by simpa using hy)) (by simp; omega) (by omega)⟩
          rw [Ws_rev]; omega
        · refine ⟨up (Th.sub hgs hdp (fun y hy => by simpa using hy) hB0 ?_), topN_sub hn (fun y hy => by simpa using hy) (by simp; omega) (by omega)⟩
          rw [Ws_append]; simp only [Ws, W]; omega
        · refine ⟨⟨?_, ?_, ?_⟩, topN_tup.mpr ⟨by simp, fun y hy => by rw [List.mem_singleton.mp hy]; exact topN_mono (by omega) _ hn⟩⟩
          · simp only [good, goods]; exact ⟨goods_mono (by omega) _ hgs, trivial⟩
          · simp only [W, Ws]; omega
          · rw [depth_tup]
            have : PyData.depthAll (D.pys [D.tup xs]) ≤ k := depthAll_le.mpr fun y hy => by
              simp at hy; subst hy; rw [depth_tup]; exact hdp
            omega
      obtain ⟨x, e, hx⟩ := atI_mem (xs := [Mini.D.tup (List.take a xs ++ List.drop (a + 1) xs), D.tup (List.take (a + 1) xs ++ List.drop a xs), D.tup (List.take a xs ++ (two.reverse ++ List.drop (a + 2) xs)), D.lst false (D.frzs xs), D.tup xs.reverse, D.tup (xs ++ [D.int 0]), D.tup [D.tup xs]]) j1 (by simpa using j2)
      obtain ⟨h1, h2⟩ := all x hx
      have hxp := good_pure h1.g
      simp only [callK_no, ios_val, ios_io, ios_nil, bor_val, bor_io, bor_nil, List.length_cons, List.length_nil, true_and]
      simp [e, hxp, -frzs_of_pures]
      exact ⟨h1, h2, d, hd0, rfl⟩
    · have hti2 : isiD .tuple t = false := by
        cases t with
        | tup xs => exact absurd ⟨xs, rfl⟩ hti
        | raw xs => have := ht.g; simp only [good] at this
        | _ => rfl
      have oddc : (Φ fo [d.D, t]).S (fun r o => ∃ (d' : Dk), Th (B + 1) (12 * w + 600) (k + 2) r ∧ topN (n + 3) r ∧ d'.ok ∧ o = [d'.D]) noX := by
        refine Cr.S_use (ho d t B w k n hd0 ht hn hB (by omega) (by omega) hw) ?_
        rintro r _ ⟨d', h1, h2, h3, rfl⟩
        exact ⟨d', h1.mono (by omega) (by omega) (Nat.le_refl _), h2, h3, rfl⟩
      have odde : (dS Φ ((CS.ret (CE.call fo (CA.io 0 (CA.val (CE.var 1) CA.nil)))).seq CS.skip) [some d.D, some t, some (.int way), none, none, none]).S (retK [0] false (fun r o => ∃ (d' : Dk), Th (B + 1) (12 * w + 600) (k + 2) r ∧ topN (n + 3) r ∧ d'.ok ∧ o = [d'.D]) .t) (excK [0] noX .t) := by
        simp [htp]
        refine Cr.S_use oddc ?_
        rintro r _ ⟨d', h1, h2, h3, rfl⟩
        have hxp := good_pure h1.g
        simp [hxp]
        exact ⟨h1, h2, d', h3, rfl⟩
      by_cases hti3 : isiD .int t = true
      · obtain ⟨s, es, hs1, hs2⟩ := str_ok ht (by omega) (by omega) (by omega)
        have hx : ∃ (p q : Int) (e : Bool), binD .Add t (.int 1) = some (.int p) ∧ binD .Sub t (.int 1) = some (.int q) ∧ eqD t (.int 1) = some e ∧ p.natAbs < B + 1 ∧ q.natAbs < B + 1 := by
          cases t with
          | int i =>
            have := ht.g
            simp only [good] at this
            exact ⟨_, _, _, rfl, rfl, eqD_int, by omega, by omega⟩
          | bl b => exact ⟨_, _, _, rfl, rfl, eqD_bli, by cases b <;> simp <;> omega, by cases b <;> simp <;> omega⟩
          | _ => cases hti3
        obtain ⟨p, q, e, e1, e2, e3, p1, q1⟩ := hx
        simp [htp, hti2, hti3, SS_ifs]
        refine condK_i (fun h => ?_) (fun h => ?_)
        · simp at h
          have ht' : Th (B + 1) w k t := ht.mono (by omega) (Nat.le_refl _) (Nat.le_refl _)
          have all : ∀ x ∈ [Mini.D.int p, .int q, .bl e, .str s, .lst false [t], .dK false [.inl 0] [t]], Th (B + 1) (12 * w + 600) (k + 2) x ∧ topN (n + 3) x := by
            intro x hx
            simp only [List.mem_cons, List.not_mem_nil, or_false] at hx
            rcases hx with rfl | rfl | rfl | rfl | rfl | rfl
            · exact ⟨Th.int p1 (by omega), trivial⟩
            · exact ⟨Th.int q1 (by omega), trivial⟩
            · exact ⟨Th.bl (by omega), trivial⟩
            · exact ⟨(Th.str (B := B + 1) (k := k) hs1 hs2).mono (Nat.le_refl _) (by omega) (Nat.le_refl _), trivial⟩
            · exact ⟨ht'.lst1.mono (Nat.le_refl _) (by omega) (Nat.le_refl _), trivial⟩
            · exact ⟨(ht'.dct1 (by omega)).mono (Nat.le_refl _) (by omega) (Nat.le_refl _), trivial⟩
          obtain ⟨x, ex, hx⟩ := atI_mem (xs := [Mini.D.int p, .int q, .bl e, .str s, .lst false [t], .dK false [.inl 0] [t]]) y1 (by simpa using h)
          obtain ⟨h1, h2⟩ := all x hx
          have hxp := good_pure h1.g
          simp [e1, e2, e3, es, htp, ex, hxp]
          exact ⟨h1, h2, d, hd0, rfl⟩
        · simp
          simpa [htp] using odde
      · have hti4 : isiD .int t = false := by simpa using hti3
        simp [htp, hti2, hti4, SS_ifs]
        simpa [htp] using odde
  · have hrp := good_pure hr.g
    simp [hg, hrp]
    exact ⟨hr, hrn, d', hd0, rfl⟩
end Mini
set_option linter.all false
set_option maxRecDepth 100000
namespace Mini
open PySem L2
/-- a web of pairs numbered by a permutation -/
theorem web_from {n : Nat} {p : List Nat} {ps : List (Nat × Nat)} {w : Web} (hp : p.Perm (List.range n)) (n1 : 1 ≤ n) (n2 : n ≤ 100) (hps : ∀ q ∈ ps, q.1 < n ∧ q.2 < n ∧ q.1 ≠ q.2) (hwn : w.n = n)
    (hm : ∀ i k, (i, k) ∈ w.cells ↔ ∃ r ∈ (ps.map fun q : Nat × Nat => (⟨false, p.getD q.1 0, p.getD q.2 0⟩ : Pr)), (r.i = i ∧ r.k = k) ∨ (r.i = k ∧ r.k = i)) (hs : w.cells.Pairwise ltP) (hl : w.cells.length ≤ 1000000) :
    w.ok ∧ (∀ a, a < n → p.getD a 0 < n) ∧ (∀ a b, a < n → b < n → (p.getD a 0 = p.getD b 0 ↔ a = b)) ∧ ∀ a b, a < n → b < n → (w.adj (p.getD a 0) (p.getD b 0) ↔ ∃ q ∈ ps, (q.1 = a ∧ q.2 = b) ∨ (q.1 = b ∧ q.2 = a)) := by
  have hpl : p.length = n := by simpa using hp.length_eq
  have pg : ∀ a, a < n → ∃ h : a < p.length, p.getD a 0 = p[a] := fun a ha => ⟨by omega, by simp [List.getD, show a < p.length by omega]⟩
  have pr : ∀ a, a < n → p.getD a 0 < n := fun a ha => by
    obtain ⟨h, e⟩ := pg a ha
    rw [e]
    have := hp.mem_iff.mp (List.getElem_mem h)
    simpa using this
  have pn : p.Nodup := hp.nodup_iff.mpr List.nodup_range
  have pi : ∀ a b, a < n → b < n → (p.getD a 0 = p.getD b 0 ↔ a = b) := fun a b ha hb => by
    obtain ⟨h1, e1⟩ := pg a ha
    obtain ⟨h2, e2⟩ := pg b hb
    rw [e1, e2]
    exact List.getElem_inj pn
  have mem : ∀ i k, (i, k) ∈ w.cells ↔ ∃ q ∈ ps, (p.getD q.1 0 = i ∧ p.getD q.2 0 = k) ∨ (p.getD q.1 0 = k ∧ p.getD q.2 0 = i) := fun i k => by
    rw [hm]
    constructor
    · rintro ⟨r, hr, h⟩
      obtain ⟨q, hq, rfl⟩ := List.mem_map.mp hr
      exact ⟨q, hq, h⟩
    · rintro ⟨q, hq, h⟩
      exact ⟨_, List.mem_map.mpr ⟨q, hq, rfl⟩, h⟩
  refine ⟨⟨by omega, by omega, fun i k h => ?_, fun i k h => ?_, hs, hl⟩, pr, pi, fun a b ha hb => ?_⟩
  · obtain ⟨q, hq, h⟩ := (mem i k).mp h
    obtain ⟨s1, s2, s3⟩ := hps q hq
    have r1 := pr q.1 s1
    have r2 := pr q.2 s2
    have r3 : p.getD q.1 0 ≠ p.getD q.2 0 := fun e => s3 ((pi _ _ s1 s2).mp e)
    rw [hwn]
    rcases h with ⟨rfl, rfl⟩ | ⟨rfl, rfl⟩
    · exact ⟨r1, r2, r3⟩
    · exact ⟨r2, r1, Ne.symm r3⟩
  · obtain ⟨q, hq, h⟩ := (mem i k).mp h
    exact (mem k i).mpr ⟨q, hq, h.symm⟩
  · show (_, _) ∈ w.cells ↔ _
    rw [mem]
    constructor
    · rintro ⟨q, hq, h⟩
      obtain ⟨s1, s2, s3⟩ := hps q hq
      rw [pi _ _ s1 ha, pi _ _ s2 hb, pi _ _ s1 hb, pi _ _ s2 ha] at h
      exact ⟨q, hq, h⟩
    · rintro ⟨q, hq, h⟩
      obtain ⟨s1, s2, s3⟩ := hps q hq
      refine ⟨q, hq, ?_⟩
      rw [pi _ _ s1 ha, pi _ _ s2 hb, pi _ _ s1 hb, pi _ _ s2 ha]
      exact h
def prT (p : Nat × Nat) : Mini.D := .tup [.int p.1, .int p.2]
@[simp] theorem frz_prT {p : Nat × Nat} : (prT p).frz = prT p := rfl
@[simp] theorem pure_prT {p : Nat × Nat} : (prT p).pure = true := rfl
@[simp] theorem pures_prT {l : List (Nat × Nat)} : D.pures (l.map prT) = true := pures_tupf
@[simp] theorem frzs_prT {l : List (Nat × Nat)} : D.frzs (l.map prT) = l.map prT := frzs_tupf
def RingedS (F : List Mini.D → Cr) : Prop := ∀ (d : Dk), d.ok → (F [d.D]).S (fun r o => ∃ (w : Web) (l : List Nat) (d' : Dk), r = .tup [w.D, .tup (natsD l)] ∧ w.ok ∧ w.n ≤ 24 ∧ RingL w l ∧ l.length ≤ 24 ∧ d'.ok ∧ o = [d'.D]) noX
def ringPs (n : Nat) : List (Nat × Nat) := (List.range n).map fun k => (k, (k + 1) % n)
def RgJ (lo mo : Nat) (g : Int) (p : List Nat) (L : Nat) (ρ : Env) : Prop := ∃ (ex : List (Nat × Nat)) (d : Dk), d.ok ∧ (∀ q ∈ ex, lo ≤ q.1 ∧ q.1 < lo + mo ∧ q.2 < lo) ∧ ex.length ≤ L ∧ ρ = [some d.D, some (.int (b2i (decide (g = 1)))), some (.int lo), some (.int mo), some (.lst false (natsD p)), some (.lst true ((ringPs lo ++ ex).map prT)), none, none, none, none, none]
theorem ringed_ok {Φ : Phi} {fd ft fw : Nat} (hd : DrawS (Φ fd)) (ht : TurnedS (Φ ft)) (hw : WebOfS (Φ fw)) : RingedS (rF Φ (f_law_ringed fd ft fw)) := by
  intro d hd0
  refine S_def rfl ?_
  simp [f_law_ringed, CF.start]
  refine Cr.S_use (hd d _ hd0 (by omega) (by omega)) ?_
  rintro _ _ ⟨g, d, rfl, _, _, hd0, rfl⟩
  have eg : ∃ m : Nat, 1 ≤ m ∧ m ≤ 21 ∧ atI [Mini.D.int 4, .int 21] (b2i (decide (g = 1))) = some (.int m) := by
    by_cases h : g = 1
    · exact ⟨21, by omega, by omega, by simp [h]⟩
    · exact ⟨4, by omega, by omega, by simp [h]⟩
  obtain ⟨m, m1, m2, eg⟩ := eg
  simp [eg]
  refine Cr.S_use (hd d _ hd0 (by omega) (by omega)) ?_
  rintro _ _ ⟨lo, d, rfl, l1, l2, hd0, rfl⟩
  obtain ⟨lo', rfl⟩ := Int.eq_ofNat_of_zero_le l1
  obtain ⟨lo, e4, hlo1, hlo2⟩ : ∃ lo : Nat, (4 : Int) + lo' = lo ∧ 4 ≤ lo ∧ lo ≤ 24 := ⟨4 + lo', by push_cast; rfl, by omega, by omega⟩
  simp [e4]
  refine Cr.S_use (hd d _ hd0 (by split <;> omega) (by split <;> omega)) ?_
  rintro _ _ ⟨mo, d, rfl, o1, o2, hd0, rfl⟩
  obtain ⟨mo, rfl⟩ := Int.eq_ofNat_of_zero_le o1
  have hmo : lo + mo ≤ 24 ∧ mo ≤ 3 := by split at o2 <;> omega
  obtain ⟨N, en, hN⟩ : ∃ N : Nat, (lo : Int) + mo = N ∧ N = lo + mo := ⟨lo + mo, by push_cast; rfl, rfl⟩
  simp [en]
  refine Cr.S_use (ht d N hd0 (by omega)) ?_
  rintro _ _ ⟨p, d, rfl, hp, hd0, rfl⟩
  have hpl : p.length = N := by simpa using hp.length_eq
  have hpD : (p.map fun i : Nat => D.int i) = natsD p := rfl
  have z0 : lo < 16777216 := by omega
  simp [hpD, sizeLine_eq, z0]
  have ez : rangeD 0 lo = (List.range lo).map fun k : Nat => D.int k := by simp [rangeD]
  rw [ez]
  refine ⟨by omega, ?_⟩
  refine lcX_map (fun k : Nat => D.int k) (fun k => prT (k, (k + 1) % lo)) (List.range lo) (fun k hk => ?_) ?_
  · have hlo0 : (0 : Int) < lo := by omega
    obtain ⟨z, e5, e6⟩ : ∃ z : Nat, ((k : Int) + 1) % lo = z ∧ z = (k + 1) % lo := ⟨(k + 1) % lo, by push_cast; rfl, rfl⟩
    rw [← e6]
    simp [e5, prT]
    omega
  · have er : ((List.range lo).map fun k => prT (k, (k + 1) % lo)) = (ringPs lo).map prT := by simp [ringPs]
    rw [er]
    simp [en, hpD, -SS_for]
    refine Rx.S_mid (fun fl ρ => fl = .next ∧ RgJ lo mo g p 100 ρ) ?_ ?_
    · simp [en]
      refine ⟨by omega, ?_⟩
      refine forX_range lo _ (fun i ρ => RgJ lo mo g p (24 * i) ρ) ⟨[], d, hd0, by simp, by simp, by simp⟩ ?_ ?_
      · rintro i ρ hi ⟨ex, d, hd0, x1, x2, rfl⟩
        obtain ⟨k, ek, ek2⟩ : ∃ k : Nat, (lo : Int) + i = k ∧ k = lo + i := ⟨lo + i, by push_cast; rfl, rfl⟩
        rw [ek]
        simp
        refine Cr.S_use (hd d _ hd0 (by omega) (by omega)) ?_
        rintro _ _ ⟨way, d, rfl, y1, y2, hd0, rfl⟩
        simp
        refine Cr.S_use (hd d _ hd0 (by omega) (by omega)) ?_
        rintro _ _ ⟨at_, d, rfl, a1, a2, hd0, rfl⟩
        obtain ⟨a, rfl⟩ := Int.eq_ofNat_of_zero_le a1
        obtain ⟨q, eq1, eq2⟩ : ∃ q : Nat, q ≤ 24 ∧ atI [Mini.D.int 0, .int 1, .int 2, .int lo] way = some (.int q) := by
          rcases (show way = 0 ∨ way = 1 ∨ way = 2 ∨ way = 3 by omega) with rfl | rfl | rfl | rfl
          · exact ⟨0, by omega, by simp⟩
          · exact ⟨1, by omega, by simp⟩
          · exact ⟨2, by omega, by simp⟩
          · exact ⟨lo, by omega, by simp⟩
        have zq : q < 16777216 := by omega
        have ez2 : rangeD 0 q = (List.range q).map fun k : Nat => D.int k := by simp [rangeD]
        have hlo0 : (0 : Int) < lo := by omega
        simp [eq2, sizeLine_eq, zq, ez2]
        refine ⟨by omega, ?_⟩
        refine lcX_map (fun k : Nat => D.int k) (fun j => prT (k, (a + j) % lo)) (List.range q) (fun j hj => ?_) ?_
        · obtain ⟨z, e5, e6⟩ : ∃ z : Nat, ((a : Int) + j) % lo = z ∧ z = (a + j) % lo := ⟨(a + j) % lo, by push_cast; rfl, rfl⟩
          rw [← e6]
          simp [e5, prT]
          omega
        · have er2 : ((List.range q).map fun j => prT (k, (a + j) % lo)) = ((List.range q).map fun j => (k, (a + j) % lo)).map prT := by simp
          rw [er2]
          have zl : (ringPs lo).length + (ex.length + q) ≤ 16777216 := by simp [ringPs]; omega
          simp [zl, -List.map_map, sizeLine_eq]
          refine ⟨by omega, ex ++ (List.range q).map fun j => (k, (a + j) % lo), d, hd0, ?_, by simp; omega, by simp [-List.map_map]⟩
          intro r hr
          rw [List.mem_append] at hr
          rcases hr with hr | hr
          · exact x1 r hr
          · obtain ⟨j, hj, rfl⟩ := List.mem_map.mp hr
            exact ⟨by simp only; omega, by simp only; omega, Nat.mod_lt _ (by omega)⟩
      · rintro ρ ⟨ex, d, hd0, x1, x2, rfl⟩
        exact ⟨rfl, ex, d, hd0, x1, by omega, rfl⟩
    · rintro _ _ ⟨rfl, ex, d, hd0, x1, x2, rfl⟩
      have zl : (ringPs lo).length + ex.length < 16777216 := by simp [ringPs]; omega
      simp [en, sizeLine_eq, zl, -List.map_append]
      have hps : ∀ q ∈ ringPs lo ++ ex, q.1 < N ∧ q.2 < N ∧ q.1 ≠ q.2 := by
        intro q hq
        rw [List.mem_append] at hq
        rcases hq with hq | hq
        · obtain ⟨k, hk, rfl⟩ := List.mem_map.mp hq
          have hk : k < lo := by simpa using hk
          have h1 : (k + 1) % lo < lo := Nat.mod_lt _ (by omega)
          refine ⟨by simp only; omega, by simp only; omega, ?_⟩
          simp only
          by_cases h2 : k + 1 < lo
          · rw [Nat.mod_eq_of_lt h2]; omega
          · rw [show k + 1 = lo by omega, Nat.mod_self]; omega
        · have := x1 q hq
          omega
      refine lcX_map prT (fun q => Pr.D ⟨false, p.getD q.1 0, p.getD q.2 0⟩) _ (fun q hqm => ?_) ?_
      · obtain ⟨h1, h2, _⟩ := hps q hqm
        have h1 : q.1 < p.length := by omega
        have h2 : q.2 < p.length := by omega
        simp [prT, natsD_get, h1, h2, Pr.D]
      · have e3 : ((ringPs lo ++ ex).map fun q : Nat × Nat => Pr.D ⟨false, p.getD q.1 0, p.getD q.2 0⟩) = ((ringPs lo ++ ex).map fun q : Nat × Nat => (⟨false, p.getD q.1 0, p.getD q.2 0⟩ : Pr)).map Pr.D := by rw [List.map_map]; rfl
        rw [e3]
        have hrl : (ringPs lo).length = lo := by simp [ringPs]
        simp [-List.map_map, -List.map_append]
        refine Cr.S_use (hw N _ (by simp; omega)) ?_
        rintro _ _ ⟨w, rfl, w1, w2, w3, w4, rfl⟩
        have hlN : lo ≤ p.length := by omega
        have etake : cutD (natsD p) none (some (lo : Int)) = natsD (p.take lo) := by rw [cutD_to, natsD, natsD, List.map_take]
        simp [etake]
        obtain ⟨g1, g2, g3, g4⟩ := web_from hp (by omega) (by omega) hps w1 w2 w3 (by simp at w4; simp [ringPs] at w4; omega)
        have gt : ∀ a (h : a < (p.take lo).length), (p.take lo)[a] = p.getD a 0 ∧ a < lo := by
          intro a h
          simp at h
          refine ⟨?_, by omega⟩
          simp [List.getD, show a < p.length by omega]
        refine ⟨w, p.take lo, ⟨rfl, rfl⟩, g1, by omega, ⟨by simp; omega, ?_, ?_, ?_⟩, by simp; omega, d, hd0, rfl⟩
        · intro x hx
          obtain ⟨a, ha, rfl⟩ := List.getElem_of_mem hx
          obtain ⟨e, hal⟩ := gt a ha
          rw [e, w1]
          exact g2 a (by omega)
        · exact (hp.nodup_iff.mpr List.nodup_range).sublist (List.take_sublist _ _)
        · intro a b hab hb
          obtain ⟨eb, hbl⟩ := gt b hb
          obtain ⟨ea, hal⟩ := gt a (by omega)
          have hlen : (p.take lo).length = lo := by simp; omega
          rw [ea, eb, g4 a b (by omega) (by omega), hlen]
          constructor
          · rintro ⟨q, hq, h⟩
            rw [List.mem_append] at hq
            rcases hq with hq | hq
            · obtain ⟨k, hk, rfl⟩ := List.mem_map.mp hq
              have hk : k < lo := by simpa using hk
              simp only at h
              by_cases h2 : k + 1 < lo
              · rw [Nat.mod_eq_of_lt h2] at h; omega
              · rw [show k + 1 = lo by omega, Nat.mod_self] at h; omega
            · have := x1 q hq
              omega
          · rintro (rfl | ⟨rfl, rfl⟩)
            · refine ⟨(a, (a + 1) % lo), List.mem_append_left _ (List.mem_map.mpr ⟨a, by simpa using hal, rfl⟩), Or.inl ⟨rfl, ?_⟩⟩
              exact Nat.mod_eq_of_lt hbl
            · refine ⟨(lo - 1, (lo - 1 + 1) % lo), List.mem_append_left _ (List.mem_map.mpr ⟨lo - 1, by simp; omega, rfl⟩), Or.inr ⟨rfl, ?_⟩⟩
              simp only
              rw [show lo - 1 + 1 = lo by omega, Nat.mod_self]
end Mini
set_option linter.all false
set_option maxRecDepth 100000
namespace Mini
open PySem L2
theorem nxt_eq {n k : Nat} (h : k < n) : nxt n k = if k + 1 < n then k + 1 else 0 := by
  unfold nxt
  split
  · rename_i h1; exact Nat.mod_eq_of_lt h1
  · rw [show k + 1 = n by omega, Nat.mod_self]
def RingC (w : Web) (l : List Nat) : Prop := 4 ≤ l.length ∧ (∀ x ∈ l, x < w.n) ∧ l.Nodup ∧ ∀ i j (_ : i < l.length) (_ : j < l.length), w.adj l[i] l[j] ↔ (j = nxt l.length i ∨ i = nxt l.length j)
theorem ringC_iff {w : Web} {l : List Nat} (hw : w.ok) : RingL w l ↔ RingC w l := by
  have sym : ∀ i k, w.adj i k ↔ w.adj k i := fun i k => ⟨hw.symm i k, hw.symm k i⟩
  constructor
  · rintro ⟨h1, h2, h3, h⟩
    refine ⟨h1, h2, h3, fun i j hi hj => ?_⟩
    rw [nxt_eq hi, nxt_eq hj]
    rcases Nat.lt_trichotomy i j with hij | hij | hij
    · rw [h i j hij hj]
      split <;> split <;> omega
    · subst hij
      have : ¬ w.adj l[i] l[i] := fun ha => (hw.rng _ _ ha).2.2 rfl
      simp only [this, false_iff]
      split <;> omega
    · rw [sym, h j i hij hi]
      split <;> split <;> omega
  · rintro ⟨h1, h2, h3, h⟩
    refine ⟨h1, h2, h3, fun i j hij hj => ?_⟩
    rw [h i j (by omega) hj, nxt_eq (by omega : i < l.length), nxt_eq hj]
    split <;> split <;> omega
theorem ring_rev {w : Web} {l : List Nat} (hw : w.ok) (h : RingL w l) : RingL w l.reverse := by
  rw [ringC_iff hw] at *
  obtain ⟨h1, h2, h3, h⟩ := h
  refine ⟨by simpa using h1, by simpa using h2, (List.reverse_perm l).nodup_iff.mpr h3, fun i j hi hj => ?_⟩
  simp only [List.length_reverse] at hi hj
  rw [List.getElem_reverse, List.getElem_reverse, h, List.length_reverse, nxt_eq hi, nxt_eq hj, nxt_eq (by omega), nxt_eq (by omega)]
  split <;> split <;> split <;> split <;> omega
theorem ring_rot {w : Web} {l : List Nat} (hw : w.ok) (h : RingL w l) (a : Nat) (ha : a ≤ l.length) : RingL w (l.drop a ++ l.take a) := by
  rw [ringC_iff hw] at *
  obtain ⟨h1, h2, h3, h⟩ := h
  have hlen : (l.drop a ++ l.take a).length = l.length := by simp; omega
  have perm : (l.drop a ++ l.take a).Perm l := by
    have := List.perm_append_comm (l₁ := l.drop a) (l₂ := l.take a)
    rwa [List.take_append_drop] at this
  have get : ∀ i (hi : i < (l.drop a ++ l.take a).length), ∃ (k : Nat) (hk : k < l.length), (l.drop a ++ l.take a)[i] = l[k] ∧ k = if i + a < l.length then i + a else i + a - l.length := by
    intro i hi
    by_cases hc : i + a < l.length
    · refine ⟨i + a, hc, ?_, by rw [if_pos hc]⟩
      rw [List.getElem_append_left (by simp; omega), List.getElem_drop]
      congr 1; omega
    · refine ⟨i + a - l.length, by omega, ?_, by rw [if_neg hc]⟩
      rw [List.getElem_append_right (by simp; omega), List.getElem_take]
      congr 1; simp; omega
  refine ⟨by omega, fun x hx => h2 x (perm.mem_iff.mp hx), perm.nodup_iff.mpr h3, fun i j hi hj => ?_⟩
  obtain ⟨k, hk, ek, vk⟩ := get i hi
  obtain ⟨m, hm, em, vm⟩ := get j hj
  rw [ek, em, h k m hk hm, hlen, nxt_eq hk, nxt_eq hm, nxt_eq (by omega : i < l.length), nxt_eq (by omega : j < l.length)]
  split at vk <;> split at vm <;> split <;> split <;> split <;> split <;> omega
def AboutS (F : List Mini.D → Cr) : Prop := ∀ (d : Dk) (w : Web) (l : List Nat), d.ok → w.ok → RingL w l → l.length ≤ 1000 → (F [d.D, .tup (natsD l)]).S (fun r o => ∃ (l' : List Nat) (d' : Dk), r = .tup (natsD l') ∧ l'.length = l.length ∧ RingL w l' ∧ d'.ok ∧ o = [d'.D]) noX
theorem about_ok {Φ : Phi} {fd : Nat} (hd : DrawS (Φ fd)) : AboutS (rF Φ (f_law_about fd)) := by
  intro d w l hd0 hw hr hl
  refine S_def rfl ?_
  have h4 := hr.1
  simp [f_law_about, CF.start]
  refine Cr.S_use (hd d _ hd0 (by omega) (by omega)) ?_
  rintro _ _ ⟨a, d, rfl, a1, a2, hd0, rfl⟩
  obtain ⟨a, rfl⟩ := Int.eq_ofNat_of_zero_le a1
  have e1 : cutD (natsD l) (some (a : Int)) none = natsD (l.drop a) := by rw [cutD_from, natsD, natsD, List.map_drop]
  have e2 : cutD (natsD l) none (some (a : Int)) = natsD (l.take a) := by rw [cutD_to, natsD, natsD, List.map_take]
  have e3 : natsD (l.drop a) ++ natsD (l.take a) = natsD (l.drop a ++ l.take a) := by simp [natsD]
  have e4 : ∀ l : List Nat, (natsD l).reverse = natsD l.reverse := fun l => by simp [natsD]
  have z : l.length - a + min a l.length ≤ 16777216 := by omega
  simp [e1, e2, e3, e4, sizeLine_eq, z, -List.reverse_append]
  refine Cr.S_use (hd d _ hd0 (by omega) (by omega)) ?_
  rintro _ _ ⟨b, d, rfl, b1, b2, hd0, rfl⟩
  rcases (show b = 0 ∨ b = 1 by omega) with rfl | rfl
  · simp
    exact ⟨_, rfl, by simp; omega, ring_rot hw hr a (by omega), d, hd0, rfl⟩
  · simp [-List.reverse_append]
    exact ⟨_, rfl, by simp; omega, ring_rev hw (ring_rot hw hr a (by omega)), d, hd0, rfl⟩
theorem web_sub {w w' : Web} (hw : w.ok) (hn : w'.n = w.n) (hm : ∀ i k, (i, k) ∈ w'.cells → (i < w.n ∧ k < w.n ∧ i ≠ k) ∧ (k, i) ∈ w'.cells) (hs : w'.cells.Pairwise ltP) (hl : w'.cells.length ≤ 1000000) : w'.ok :=
  ⟨by rw [hn]; exact hw.pos, by rw [hn]; exact hw.le, fun i k h => by rw [hn]; exact (hm i k h).1, fun i k h => (hm i k h).2, hs, hl⟩
theorem cells_len {w : Web} (hw : w.ok) : w.cells.length ≤ 10000 := by
  have hnd : w.cells.Nodup := hw.ris.imp fun h e => by subst e; unfold ltP at h; omega
  have hsub : ∀ c ∈ w.cells, c ∈ (List.range w.n).flatMap fun i => (List.range w.n).map fun k => (i, k) := by
    rintro ⟨i, k⟩ hc
    obtain ⟨h1, h2, _⟩ := hw.rng i k hc
    simp [h1, h2]
  have hlen := List.Nodup.length_le_of_subset hnd hsub
  have e : ((List.range w.n).flatMap fun i => (List.range w.n).map fun k => (i, k)).length = w.n * w.n := by
    rw [List.length_flatMap]
    simp only [List.length_map, List.length_range]
    rw [List.map_const', List.sum_replicate_nat, List.length_range]
  rw [e] at hlen
  have := Nat.mul_le_mul hw.le hw.le
  omega
def NearRS (F : List Mini.D → Cr) : Prop := ∀ (d : Dk) (w : Web) (l : List Nat), d.ok → w.ok → RingL w l → l.length ≤ 1000 → (F [d.D, w.D, .tup (natsD l)]).S (fun r o => ∃ (w1 w2 : Web) (d' : Dk), r = .lst false [w1.D, w2.D] ∧ w1.ok ∧ w2.ok ∧ d'.ok ∧ o = [d'.D]) noX
theorem nearR_ok {Φ : Phi} {fd fw : Nat} (hd : DrawS (Φ fd)) (hwo : WebOfS (Φ fw)) : NearRS (rF Φ (f_law_near_rings fd fw)) := by
  intro d w l hd0 hw hr hl
  refine S_def rfl ?_
  obtain ⟨h4, hlt, hnd, _⟩ := hr
  have e0 : w.D = .tup [.int w.n, .tup (w.cells.map cellD)] := rfl
  rw [e0]
  have hcl := cells_len hw
  simp [f_law_near_rings, CF.start]
  refine Cr.S_use (hd d _ hd0 (by omega) (by omega)) ?_
  rintro _ _ ⟨a, d, rfl, a1, a2, hd0, rfl⟩
  obtain ⟨a, rfl⟩ := Int.eq_ofNat_of_zero_le a1
  have ha : a < l.length := by omega
  simp
  refine Cr.S_use (hd d _ hd0 (by omega) (by omega)) ?_
  rintro _ _ ⟨f, d, rfl, f1, f2, hd0, rfl⟩
  obtain ⟨f, rfl⟩ := Int.eq_ofNat_of_zero_le f1
  obtain ⟨t, et, ht⟩ : ∃ t : Nat, ((a : Int) + (2 + f)) % l.length = t ∧ t = (a + (2 + f)) % l.length := ⟨_, by push_cast; rfl, rfl⟩
  have htl : t < l.length := by rw [ht]; exact Nat.mod_lt _ (by omega)
  have hta : t ≠ a := by
    rw [ht]
    by_cases hc : a + (2 + f) < l.length
    · rw [Nat.mod_eq_of_lt hc]; omega
    · rw [Nat.mod_eq_sub_mod (by omega), Nat.mod_eq_of_lt (by omega)]; omega
  have hpos : (0 : Int) < l.length := by omega
  have g1 := natsD_get ha
  have g2 := natsD_get htl
  have g3 := natsD_prv ha
  have zc : w.cells.length < 16777216 := by omega
  have zc1 : w.cells.length + 1 ≤ 16777216 := by omega
  simp [et, hpos, g1, g2, g3, sizeLine_eq, zc]
  refine ⟨by omega, ?_⟩
  have es : ∀ c : Nat × Nat, sortedD (cellD c) = some (.lst true ((sortI [(c.1 : Int), (c.2 : Int)]).map D.int)) := fun c => by
    have : sortedD (cellD c) = sortedD.sortedL [.int c.1, .int c.2] := rfl
    rw [this, sortedD.sortedL]
    simp
  refine lcX_pure cellD (fun c => !decide (sortI [(c.1 : Int), (c.2 : Int)] = sortI [(l[a] : Int), (l[prv l.length a]'(prv_lt ha) : Int)])) cellD w.cells (fun c hc => ?_) ?_
  · have e2 : sortedD (.lst true [.int (l[a] : Nat), .int (l[prv l.length a]'(prv_lt ha) : Nat)]) = some (.lst true ((sortI [(l[a] : Int), (l[prv l.length a]'(prv_lt ha) : Int)]).map D.int)) := sortedD_ints rfl
    simp [es, g1, g3, e2, -sortedD_two]
    refine condK_i (fun h => ?_) (fun h => ?_) <;> simp [frz_pure]
  · have ec : (w.cells.filter fun c => !decide (sortI [(c.1 : Int), (c.2 : Int)] = sortI [(l[a] : Int), (l[prv l.length a]'(prv_lt ha) : Int)])).map cellD = ((w.cells.filter fun c => !decide (sortI [(c.1 : Int), (c.2 : Int)] = sortI [(l[a] : Int), (l[prv l.length a]'(prv_lt ha) : Int)])).map fun c => (⟨true, c.1, c.2⟩ : Pr)).map Pr.D := by rw [List.map_map]; rfl
    have hfl : (w.cells.filter fun c => !decide (sortI [(c.1 : Int), (c.2 : Int)] = sortI [(l[a] : Int), (l[prv l.length a]'(prv_lt ha) : Int)])).length ≤ w.cells.length := List.length_filter_le _ _
    have hfs : ∀ i k, (i, k) ∈ (w.cells.filter fun c => !decide (sortI [(c.1 : Int), (c.2 : Int)] = sortI [(l[a] : Int), (l[prv l.length a]'(prv_lt ha) : Int)])) → (i, k) ∈ w.cells := fun i k h => (List.mem_filter.mp h).1
    rw [ec]
    generalize (w.cells.filter fun c => !decide (sortI [(c.1 : Int), (c.2 : Int)] = sortI [(l[a] : Int), (l[prv l.length a]'(prv_lt ha) : Int)])) = fc at *
    have e1 : w.cells.map cellD ++ [.tup [.int (l[a] : Nat), .int (l[t] : Nat)]] = ((w.cells.map fun c : Nat × Nat => (⟨true, c.1, c.2⟩ : Pr)) ++ [(⟨false, l[a], l[t]⟩ : Pr)]).map Pr.D := by
      rw [List.map_append, List.map_map]; rfl
    simp [g1, g2, sizeLine_eq, zc1, e1, -List.map_map, -List.map_append]
    refine Cr.S_use (hwo w.n _ (by simp; omega)) ?_
    rintro _ _ ⟨w1, rfl, w11, w12, w13, w14, rfl⟩
    simp [-List.map_map]
    refine Cr.S_use (hwo w.n _ (by simp; omega)) ?_
    rintro _ _ ⟨w2, rfl, w21, w22, w23, w24, rfl⟩
    simp
    have hne : l[a] ≠ l[t] := fun e => hta ((List.getElem_inj hnd).mp e).symm
    have m1 : ∀ i k, (i, k) ∈ w1.cells ↔ (i, k) ∈ w.cells ∨ (k, i) ∈ w.cells ∨ (i = l[a] ∧ k = l[t]) ∨ (i = l[t] ∧ k = l[a]) := by
      intro i k
      rw [w12]
      constructor
      · rintro ⟨r, hr, h⟩
        rw [List.mem_append] at hr
        rcases hr with hr | hr
        · obtain ⟨c, hc, rfl⟩ := List.mem_map.mp hr
          rcases h with ⟨rfl, rfl⟩ | ⟨rfl, rfl⟩
          · exact Or.inl hc
          · exact Or.inr (Or.inl hc)
        · simp at hr
          subst hr
          rcases h with ⟨rfl, rfl⟩ | ⟨rfl, rfl⟩
          · exact Or.inr (Or.inr (Or.inl ⟨rfl, rfl⟩))
          · exact Or.inr (Or.inr (Or.inr ⟨rfl, rfl⟩))
      · rintro (h | h | ⟨rfl, rfl⟩ | ⟨rfl, rfl⟩)
        · exact ⟨⟨true, i, k⟩, List.mem_append_left _ (List.mem_map.mpr ⟨(i, k), h, rfl⟩), Or.inl ⟨rfl, rfl⟩⟩
        · exact ⟨⟨true, k, i⟩, List.mem_append_left _ (List.mem_map.mpr ⟨(k, i), h, rfl⟩), Or.inr ⟨rfl, rfl⟩⟩
        · exact ⟨⟨false, l[a], l[t]⟩, List.mem_append_right _ (List.mem_singleton.mpr rfl), Or.inl ⟨rfl, rfl⟩⟩
        · exact ⟨⟨false, l[a], l[t]⟩, List.mem_append_right _ (List.mem_singleton.mpr rfl), Or.inr ⟨rfl, rfl⟩⟩
    have m2 : ∀ i k, (i, k) ∈ w2.cells ↔ (i, k) ∈ fc ∨ (k, i) ∈ fc := by
      intro i k
      rw [w22]
      constructor
      · rintro ⟨r, hr, h⟩
        obtain ⟨c, hc, rfl⟩ := List.mem_map.mp hr
        rcases h with ⟨rfl, rfl⟩ | ⟨rfl, rfl⟩
        · exact Or.inl hc
        · exact Or.inr hc
      · rintro (h | h)
        · exact ⟨⟨true, i, k⟩, List.mem_map.mpr ⟨(i, k), h, rfl⟩, Or.inl ⟨rfl, rfl⟩⟩
        · exact ⟨⟨true, k, i⟩, List.mem_map.mpr ⟨(k, i), h, rfl⟩, Or.inr ⟨rfl, rfl⟩⟩
    have la := hlt _ (List.getElem_mem ha)
    have lt := hlt _ (List.getElem_mem htl)
    refine ⟨w1, w2, ⟨rfl, rfl⟩, web_sub hw w11 (fun i k h => ?_) w13 (by simp at w14; omega), web_sub hw w21 (fun i k h => ?_) w23 (by simp at w24; omega), d, hd0, rfl⟩
    · refine ⟨?_, (m1 k i).mpr ?_⟩
      · rcases (m1 i k).mp h with h | h | ⟨rfl, rfl⟩ | ⟨rfl, rfl⟩
        · exact hw.rng i k h
        · have := hw.rng k i h; exact ⟨this.2.1, this.1, Ne.symm this.2.2⟩
        · exact ⟨la, lt, hne⟩
        · exact ⟨lt, la, Ne.symm hne⟩
      · rcases (m1 i k).mp h with h | h | ⟨rfl, rfl⟩ | ⟨rfl, rfl⟩
        · exact Or.inr (Or.inl h)
        · exact Or.inl h
        · exact Or.inr (Or.inr (Or.inr ⟨rfl, rfl⟩))
        · exact Or.inr (Or.inr (Or.inl ⟨rfl, rfl⟩))
    · refine ⟨?_, (m2 k i).mpr ((m2 i k).mp h).symm⟩
      rcases (m2 i k).mp h with h | h
      · exact hw.rng i k (hfs i k h)
      · have := hw.rng k i (hfs k i h); exact ⟨this.2.1, this.1, Ne.symm this.2.2⟩
def ToldS (F : List Mini.D → Cr) : Prop := ∀ (w : Web) (t : Mini.D) (B W k n : Nat), w.ok → Th B W k t → topN n t → n ≤ 1000 → B ≤ 10 ^ 41 → W ≤ 16000000 → k ≤ 64 → (F [w.D, t]).S (fun r o => r = .bl true ∧ o = []) noX
theorem told_ok {Φ : Phi} {f1 f2 : Nat} (h1 : IsRingS (Φ f1)) (h2 : IsRingS (Φ f2)) : ToldS (rF Φ (f_law_told f1 f2)) := by
  intro w t B W k n hw ht hn hn2 hB hW hk
  refine S_def rfl ?_
  have htp := good_pure ht.g
  have er := repr_ok ht hB hk hW
  have hth := ht.thing hn hn2
  simp [f_law_told, CF.start, htp, er]
  refine Cr.S_use (h1 w t hw hth) ?_
  rintro _ _ ⟨b, rfl, hb, rfl⟩
  simp [htp, isiD]
  refine Cr.S_use (h2 w t hw hth) ?_
  rintro _ _ ⟨b', rfl, hb', rfl⟩
  have : b = b' := by
    rw [Bool.eq_iff_iff, hb, hb']
  subst this
  simp [htp, er]
end Mini
set_option linter.all false
set_option maxRecDepth 100000
namespace Mini
open PySem L2
def LawS (F : List Mini.D → Cr) : Prop := ∀ ns : List Int, ns.length ≤ 63 → (F [.scr ns]).S (fun r o => r = .bl true ∧ o = []) noX
theorem lawS_eq {F : List Mini.D → Cr} (h : LawS F) (ns : List Int) (hn : ns.length ≤ 63) : F [.scr ns] = .ok (.bl true) [] := by
  have := h ns hn
  revert this
  cases F [.scr ns] with
  | ok d o => intro h; simp at h; rw [h.1, h.2]
  | exc x o => intro h; simp [noX] at h
  | stuck => intro h; simp at h
/-- what is asked of the things -/
def PT (d : Mini.D) : Prop := Th (10 ^ 40 + 2) 439800 6 d ∧ topN 60 d
theorem PT.pure {d : Mini.D} (h : PT d) : d.pure = true := good_pure h.1.g
theorem Th.nats {l : List Nat} {n : Nat} (h : ∀ x ∈ l, x < 1000) (hn : l.length ≤ n) : Th (10 ^ 40) (3 + 47 * n) 1 (.tup (natsD l)) ∧ Th (10 ^ 40) (3 + 47 * n) 1 (.lst false (natsD l)) := by
  have hg : goods (10 ^ 40) (natsD l) := goods_iff.mpr fun x hx => by
    obtain ⟨k, hk, rfl⟩ := List.mem_map.mp hx
    have := h k hk
    simp only [good]
    have h2 : (1000 : Nat) < 10 ^ 40 := by decide
    omega
  have hw : Ws (natsD l) ≤ 47 * n := by
    have : Ws (natsD l) = 47 * l.length := by
      clear hg h hn
      induction l with
      | nil => rfl
      | cons a l ih =>
        have e : natsD (a :: l) = .int a :: natsD l := rfl
        rw [e, Ws, ih, W, List.length_cons]; omega
    omega
  have hd : PyData.depthAll (D.pys (natsD l)) ≤ 0 := depthAll_le.mpr fun x hx => by
    obtain ⟨k, hk, rfl⟩ := List.mem_map.mp hx
    simp [D.py, PyData.depth]
  exact ⟨⟨by simpa only [good] using hg, by simp only [W]; omega, by rw [depth_tup]; omega⟩, ⟨by simp only [good]; exact ⟨trivial, hg⟩, by simp only [W]; omega, by rw [depth_lst]; omega⟩⟩
theorem PT_nats {l : List Nat} (h : ∀ x ∈ l, x < 1000) (hn : l.length ≤ 60) : PT (.tup (natsD l)) ∧ PT (.lst false (natsD l)) := by
  obtain ⟨h1, h2⟩ := Th.nats h hn
  exact ⟨⟨h1.mono (by omega) (by omega) (by omega), topN_nats hn⟩, ⟨h2.mono (by omega) (by omega) (by omega), trivial⟩⟩
def LJ (ns : List Int) (ρ : Env) : Prop := ∃ d : Dk, d.ok ∧ ρ = [some (.scr ns), some d.D, none, none, none, none, none, none, none, none]
def LJ2 (ns : List Int) (o2 : Option Mini.D) (o3 : Mini.D) (w : Web) (l : List Nat) (L : Nat) (ρ : Env) : Prop := ∃ (xs : List Mini.D) (d : Dk) (o6 : Option Mini.D), d.ok ∧ (∀ x ∈ xs, PT x) ∧ xs.length ≤ L ∧ ρ = [some (.scr ns), some d.D, o2, some o3, some (.lst true xs), none, o6, some w.D, some (.tup (natsD l)), none]
def LJ3 (ns : List Int) (i : Nat) (o3 : Mini.D) (xs : List Mini.D) (k : Nat) (w : Web) (l : List Nat) (ρ : Env) : Prop := ∃ (t : Mini.D) (d : Dk), d.ok ∧ PT t ∧ ρ = [some (.scr ns), some d.D, some (.int i), some o3, some (.lst true xs), some (.int k), some t, some w.D, some (.tup (natsD l)), none]
theorem law42_ok {Φ : Phi} {f1 f2 f3 f4 f5 f6 f7 f8 f9 f10 : Nat} (hdeck : DeckS (Φ f1)) (hringed : RingedS (Φ f2)) (habout : AboutS (Φ f3)) (hisr : IsRingS (Φ f4)) (hnear : NearRS (Φ f5)) (hweb : WebS (Φ f6)) (hsp : SpoiltS 6 (Φ f7)) (hdraw : DrawS (Φ f8)) (hodd : OddS (Φ f9)) (htold : ToldS (Φ f10)) :
    LawS (rF Φ (f_law_k42 f1 f2 f3 f4 f5 f6 f7 f8 f9 f10)) := by
  intro ns hns
  refine S_def rfl ?_
  simp [f_law_k42, CF.start]
  refine Cr.S_use (hdeck ns hns) ?_
  rintro _ _ ⟨d, rfl, hd0, rfl⟩
  simp
  refine forX_range 0 _ (fun _ ρ => LJ ns ρ) ⟨d, hd0, rfl⟩ ?_ ?_
  · rintro i ρ hi ⟨d, hd0, rfl⟩
    simp
    refine Cr.S_use (hringed d hd0) ?_
    rintro _ _ ⟨w, l, d, rfl, hw, hwn, hr, hl, hd0, rfl⟩
    simp [SS_ifs]
    refine Cr.S_use (habout d w l hd0 hw hr (by omega)) ?_
    rintro _ _ ⟨l', d, rfl, hll, hr', hd0, rfl⟩
    simp
    have hlt' : ∀ x ∈ l', x < 1000 := fun x hx => by have := hr'.2.1 x hx; omega
    have hlt : ∀ x ∈ l, x < 1000 := fun x hx => by have := hr.2.1 x hx; omega
    have tl' : Thing (.tup (natsD l')) := (Th.nats hlt' (Nat.le_refl _)).1.thing (n := 1000) (topN_nats (by omega)) (by omega)
    refine Cr.S_use (hisr w _ hw tl') ?_
    rintro _ _ ⟨b, rfl, hb, rfl⟩
    have hbt : b = true := hb.mpr (RingOf_iff.mpr hr')
    subst hbt
    simp
    refine Cr.S_use (hnear d w l hd0 hw hr (by omega)) ?_
    rintro _ _ ⟨w1, w2, d, rfl, hw1, hw2, hd0, rfl⟩
    simp
    refine Cr.S_use (hweb d 24 hd0 (by omega) (by omega)) ?_
    rintro _ _ ⟨w3, d, rfl, hw3, _, hd0, rfl⟩
    have wf : ∀ w : Web, w.D.frz = w.D := fun _ => rfl
    have c1 : cutD (natsD l) none (some (-1)) = natsD l.dropLast := by rw [cutD_last, natsD, natsD, List.map_dropLast]
    have c2 : (natsD l).tail = natsD l.tail := by rw [natsD, natsD, List.map_tail]
    have c3 : ∀ n, List.take n (natsD l) = natsD (l.take n) := fun n => by rw [natsD, natsD, List.map_take]
    have c4 : ∀ a b, natsD a ++ natsD b = natsD (a ++ b) := fun a b => by simp [natsD]
    have z1 : l.length + min 1 l.length ≤ 16777216 := by omega
    have z2 : l.length + l.length ≤ 16777216 := by omega
    simp [sizeLine_eq, wf, c1, c2, c3, c4, z1, z2]
    have base : ∀ x ∈ [Mini.D.tup (natsD l), .tup (natsD l.dropLast), .tup (natsD l.tail), .tup (natsD (l ++ l.take 1)), .tup (natsD (l ++ l)), .tup (natsD (l.take 3)), .lst false (natsD l), .tup [], .non], PT x := by
      intro x hx
      simp only [List.mem_cons, List.not_mem_nil, or_false] at hx
      rcases hx with rfl | rfl | rfl | rfl | rfl | rfl | rfl | rfl | rfl
      · exact (PT_nats hlt (by omega)).1
      · exact (PT_nats (fun x hx => hlt x ((List.dropLast_sublist l).subset hx)) (by simp; omega)).1
      · exact (PT_nats (fun x hx => hlt x (List.mem_of_mem_tail hx)) (by simp; omega)).1
      · exact (PT_nats (fun x hx => by rcases List.mem_append.mp hx with h | h; exact hlt x h; exact hlt x (List.mem_of_mem_take h)) (by simp; omega)).1
      · exact (PT_nats (fun x hx => by rcases List.mem_append.mp hx with h | h; exact hlt x h; exact hlt x h) (by simp; omega)).1
      · exact (PT_nats (fun x hx => hlt x (List.mem_of_mem_take hx)) (by simp; omega)).1
      · exact (PT_nats hlt (by omega)).2
      · exact (PT_nats (l := []) (by simp) (by simp)).1
      · exact ⟨⟨by simp only [good], by simp only [W]; omega, by simp [D.py, PyData.depth]⟩, trivial⟩
    refine forX_range 0 _ (fun k ρ => LJ2 ns (some (.int i)) (.lst false [w1.D, w2.D, w3.D]) w l (9 + k) ρ) ⟨_, d, none, hd0, base, by simp, rfl⟩ ?_ ?_
    · rintro k ρ hk ⟨xs, d, o6, hd0, hxs, hxl, rfl⟩
      simp
      refine Cr.S_use (habout d w l hd0 hw hr (by omega)) ?_
      rintro _ _ ⟨l2, d, rfl, hl2, hr2, hd0, rfl⟩
      simp
      have hlt2 : ∀ x ∈ l2, x < 1000 := fun x hx => by have := hr2.2.1 x hx; omega
      have t2 : Th (10 ^ 40) 3000 2 (.tup (natsD l2)) := (Th.nats (n := 24) hlt2 (by omega)).1.mono (Nat.le_refl _) (by omega) (by omega)
      refine Cr.S_use (hsp d _ (10 ^ 40) 3000 2 24 hd0 t2 (topN_nats (by omega)) (by omega) (by omega) (by omega) (by omega) (by omega) (by omega)) ?_
      rintro t _ ⟨d, ht, htn, hd0, rfl⟩
      have htp := good_pure ht.g
      simp [htp]
      refine Rx.S_mid (fun fl ρ => fl = .next ∧ LJ3 ns i (.lst false [w1.D, w2.D, w3.D]) xs k w l ρ) ?_ ?_
      · simp [SS_ifs]
        refine Cr.S_use (hdraw d _ hd0 (by omega) (by omega)) ?_
        rintro _ _ ⟨x, d, rfl, _, _, hd0, rfl⟩
        simp
        refine condK_i (fun _ => ?_) (fun _ => ?_)
        · simp [htp]
          refine Cr.S_use (hsp d _ (10 ^ 40 + 1) 36600 4 27 hd0 ht htn (by omega) (by omega) (by omega) (by omega) (by omega) (by omega)) ?_
          rintro t _ ⟨d, ht, htn, hd0, rfl⟩
          have htp := good_pure ht.g
          simp [htp]
          exact ⟨t, d, hd0, ⟨ht, topN_mono (by omega) _ htn⟩, rfl⟩
        · simp
          exact ⟨t, d, hd0, ⟨ht.mono (by omega) (by omega) (by omega), topN_mono (by omega) _ htn⟩, rfl⟩
      · rintro _ _ ⟨rfl, t, d, hd0, hPT, rfl⟩
        have htp := hPT.pure
        have z3 : xs.length < 16777216 := by omega
        simp [htp, sizeLine_eq, z3]
        refine ⟨xs ++ [t], d, some t, hd0, fun x hx => ?_, by simp; omega, rfl⟩
        rcases List.mem_append.mp hx with h | h
        · exact hxs x h
        · simp at h; subst h; exact hPT
    · rintro ρ ⟨xs, d, o6, hd0, hxs, hxl, rfl⟩
      have hxp : D.pures xs = true := pures_iff.mpr fun x hx => (hxs x hx).pure
      have h0 : 0 < l.length := by have := hr.1; omega
      have hl1 : ((l[0] : Nat) : Int).natAbs < 10 ^ 40 := by
        have := hlt l[0] (List.getElem_mem h0)
        have h2 : (1000 : Nat) < 10 ^ 40 := by decide
        omega
      have hl0 : Th (10 ^ 40) 3000 2 (.int (l[0] : Nat)) := Th.int hl1 (by omega)
      have g0 : (natsD l)[0]? = some (.int (l[0] : Nat)) := by
        have := natsD_get h0
        rwa [atI_nat] at this
      have ewD : w.D = .tup [.int w.n, .tup (w.cells.map cellD)] := rfl
      have eix : ixD w.D (.int 0) = some (.int w.n) := rfl
      simp [frzs_of_pures hxp, g0]
      refine Cr.S_use (hodd d _ (10 ^ 40) 3000 2 0 hd0 hl0 (by simp only [topN]) (Nat.le_refl _) (by omega) (by omega) (by omega)) ?_
      rintro t _ ⟨d, ht, htn, hd0, rfl⟩
      have htp := good_pure ht.g
      have hn1 : (-1000000 : Int) ≤ w.n := by omega
      have hn2 : (w.n : Int) ≤ 1000000 := by omega
      have z4 : xs.length + 3 ≤ 16777216 := by omega
      simp [htp, eix, hn1, hn2, hxp, z4, sizeLine_eq]
      have er : rangeD 0 w.n = natsD (List.range w.n) := by simp [rangeD, natsD]
      rw [er]
      have all : ∀ x ∈ xs ++ [t, .tup (natsD (List.range w.n)), .tup (natsD l)], PT x := by
        intro x hx
        rcases List.mem_append.mp hx with h | h
        · exact hxs x h
        · simp only [List.mem_cons, List.not_mem_nil, or_false] at h
          rcases h with rfl | rfl | rfl
          · exact ⟨ht.mono (by omega) (by omega) (by omega), topN_mono (by omega) _ htn⟩
          · exact (PT_nats (fun x hx => by have := List.mem_range.mp hx; omega) (by simp; omega)).1
          · exact (PT_nats hlt (by omega)).1
      refine forX_rest (fun ys ρ => (∀ y ∈ ys, PT y) ∧ ρ = [some (.scr ns), some d.D, some (.int i), some (.lst false [w1.D, w2.D, w3.D]), some (.lst false xs), none, none, some w.D, some (.tup (natsD l)), none]) _ _ ⟨all, rfl⟩ ?_ ?_
      · rintro y r ρ ⟨hy, rfl⟩
        have hPy := hy y (by simp)
        have hyp := hPy.pure
        simp [sizeLine_eq, wf]
        refine forX_rest (fun zs ρ => (∀ z ∈ zs, ∃ w : Web, z = w.D ∧ w.ok) ∧ ρ = [some (.scr ns), some d.D, some (.int i), some (.lst false [w1.D, w2.D, w3.D]), some (.lst false xs), none, some y, some w.D, some (.tup (natsD l)), none]) _ _ ⟨?_, rfl⟩ ?_ ?_
        · intro z hz
          simp only [List.mem_cons, List.not_mem_nil, or_false] at hz
          rcases hz with rfl | rfl | rfl | rfl | rfl
          · exact ⟨w, rfl, hw⟩
          · exact ⟨w1, rfl, hw1⟩
          · exact ⟨w2, rfl, hw2⟩
          · exact ⟨w3, rfl, hw3⟩
          · exact ⟨w, rfl, hw⟩
        · rintro z r ρ ⟨hz, rfl⟩
          obtain ⟨w0, rfl, hw0⟩ := hz z (by simp)
          simp [hyp, SS_ifs]
          refine Cr.S_use (htold w0 y _ _ _ _ hw0 hPy.1 hPy.2 (by omega) (by decide) (by omega) (by omega)) ?_
          rintro _ _ ⟨rfl, rfl⟩
          simp
          exact fun z h => hz z (by simp [h])
        · rintro ρ ⟨_, rfl⟩
          simp
          exact fun z h => hy z (by simp [h])
      · rintro ρ ⟨_, rfl⟩
        simp
        exact ⟨d, hd0, rfl⟩
  · rintro ρ ⟨d, hd0, rfl⟩
    simp
end Mini
set_option linter.all false
set_option maxRecDepth 100000
namespace Mini
namespace k42
open PySem L2
theorem draw (n : Nat) : DrawS (phi prog (n + 1) 5) := by rw [phi_run (c := f_law_draw) rfl]; exact draw_ok
theorem whole (n : Nat) : WholeS (phi prog (n + 1) 0) := by rw [phi_run (c := f_is_whole) rfl]; exact whole_ok
theorem nbrs (n : Nat) : NbrsS (phi prog (n + 1) 1) := by rw [phi_run (c := f_neighbour_rows) rfl]; exact nbrs_ok
theorem nbrs2 (n : Nat) : NbrsS (phi prog (n + 2) 1) := by rw [phi_run (c := f_neighbour_rows) rfl]; exact nbrs_ok
theorem arePl (n : Nat) : ArePlS (phi prog (n + 2) 2) := by rw [phi_run (c := f_are_places 0) rfl]; exact arePl_ok (whole n)
theorem isRing (n : Nat) : IsRingS (phi prog (n + 3) 3) := by rw [phi_run (c := f_is_ring 2 1) rfl]; exact isRing_ok (Φ := phi prog (n + 2)) (fp := 2) (fn := 1) (arePl n) (nbrs2 n)
theorem deck (n : Nat) : DeckS (phi prog (n + 1) 4) := by rw [phi_run (c := f_law_deck) rfl]; exact deck_ok
theorem turned (n : Nat) : TurnedS (phi prog (n + 2) 6) := by rw [phi_run (c := f_law_turned 5) rfl]; exact turned_ok (draw n)
theorem shape (n : Nat) : ShapeS (phi prog (n + 2) 7) := by rw [phi_run (c := f_law_shape 5) rfl]; exact shape_ok (draw n)
theorem webOf (n : Nat) : WebOfS (phi prog (n + 1) 8) := by rw [phi_run (c := f_law_web_of) rfl]; exact webOf_ok
theorem web (n : Nat) : WebS (phi prog (n + 3) 9) := by rw [phi_run (c := f_law_web 5 6 7 8) rfl]; exact web_ok (draw (n + 1)) (turned n) (shape n) (webOf (n + 1))
theorem near (n : Nat) : NearS (phi prog (n + 1) 10) := by rw [phi_run (c := f_law_near) rfl]; exact near_ok
theorem near2 (n : Nat) : NearS (phi prog (n + 2) 10) := by rw [phi_run (c := f_law_near) rfl]; exact near_ok
theorem lwhole (n : Nat) : WholeS (phi prog (n + 1) 12) := by rw [phi_run (c := f_law_whole) rfl]; exact lwhole_ok
theorem larePl (n : Nat) : ArePlS (phi prog (n + 2) 13) := by rw [phi_run (c := f_law_are_places 12) rfl]; exact larePl_ok (lwhole n)
theorem lisRing (n : Nat) : IsRingS (phi prog (n + 3) 14) := by rw [phi_run (c := f_law_is_ring 13 10) rfl]; exact lisRing_ok (Φ := phi prog (n + 2)) (fp := 13) (fn := 10) (larePl n) (near2 n)
theorem odd (n : Nat) : OddS (phi prog (n + 2) 15) := by rw [phi_run (c := f_law_odd 5) rfl]; exact odd_ok (draw n)
theorem spoilt : ∀ (K n : Nat), SpoiltS K (phi prog (n + K + 2) 16)
  | 0, n => spoilt_zero
  | K + 1, n => by
    rw [show n + (K + 1) + 2 = (n + K + 2) + 1 by omega, phi_run (c := f_law_spoilt 5 16 15) rfl]
    exact spoilt_succ (draw (n + K + 1)) (odd (n + K)) (spoilt K n)
theorem ringed (n : Nat) : RingedS (phi prog (n + 3) 17) := by rw [phi_run (c := f_law_ringed 5 6 8) rfl]; exact ringed_ok (draw (n + 1)) (turned n) (webOf (n + 1))
theorem about (n : Nat) : AboutS (phi prog (n + 2) 18) := by rw [phi_run (c := f_law_about 5) rfl]; exact about_ok (draw n)
theorem nearR (n : Nat) : NearRS (phi prog (n + 2) 19) := by rw [phi_run (c := f_law_near_rings 5 8) rfl]; exact nearR_ok (draw n) (webOf n)
theorem told (n : Nat) : ToldS (phi prog (n + 4) 20) := by rw [phi_run (c := f_law_told 3 14) rfl]; exact told_ok (isRing n) (lisRing n)
theorem law : LawS (phi prog 9 21) := by
  rw [phi_run (c := f_law_k42 4 17 18 3 19 9 16 5 15 20) rfl]
  exact law42_ok (deck 7) (ringed 5) (about 6) (isRing 5) (nearR 6) (web 5) (spoilt 6 0) (draw 7) (odd 6) (told 4)
theorem plain (ns : List Int) (h : ns.length ≤ 63) : phi (pt.map (·.1)) 9 21 [.scr ns] = .ok (.bl true) [] := lawS_eq law ns h
end k42
end Mini
set_option linter.all false
set_option maxRecDepth 100000
/-! D40: the defs new with law k40, as terms. Printed by libgen.py. -/
namespace Mini
open PySem L2
def f_is_order (i_is_whole : Nat) : CF := ⟨"is_order", 2, ["many", "thing", "one"], [], false,
  (.seq (.ifs (.bop false (.cons (.not (.isi (.var 1) .tuple)) (.cons (.cmp .NotEq (.b1 .len (.var 1)) (.var 0)) (.cons (.not (.b1 .all (.lc false (.call i_is_whole (.val (.var 2) .nil)) [2] (.seq (.var 1)) .nil))) .nil))))
   (.seq (.ret (.cst (.bl false)))
   .skip)
   .skip)
  (.seq (.ret (.cmp .Eq (.b1 .sorted (.var 1)) (.rng false (.var 0))))
  .skip))⟩
def f_are_full : CF := ⟨"are_full", 2, ["near", "some", "at", "one", "other"], [], false,
  (.seq (.for_ [2, 3] (.enum (.var 1))
   (.seq (.for_ [4] (.seq (.slc (.var 1) (.yes (.bin .Add (.var 2) (.cst (.int 1)))) .no))
    (.seq (.ifs (.cmp .NotIn (.var 4) (.ix (.var 0) (.var 3)))
     (.seq (.ret (.cst (.bl false)))
     .skip)
     .skip)
    .skip) [])
   .skip) [4])
  (.seq (.ret (.cst (.bl true)))
  .skip))⟩
def f_is_free_order (i_is_order i_neighbour_rows i_are_full : Nat) : CF := ⟨"is_free_order", 2, ["web", "thing", "near", "at", "place", "other"], [], false,
  (.seq (.ifs (.not (.call i_is_order (.val (.ix (.var 0) (.cst (.int 0))) (.val (.var 1) .nil))))
   (.seq (.ret (.cst (.bl false)))
   .skip)
   .skip)
  (.seq (.asg 2 false (.call i_neighbour_rows (.val (.var 0) .nil)))
  (.seq (.for_ [3, 4] (.enum (.var 1))
   (.seq (.ifs (.not (.call i_are_full (.val (.var 2) (.val (.lc false (.var 5) [5] (.seq (.slc (.var 1) (.yes (.bin .Add (.var 3) (.cst (.int 1)))) .no)) (.cons (.cmp .In (.var 5) (.ix (.var 2) (.var 4))) .nil)) .nil))))
    (.seq (.ret (.cst (.bl false)))
    .skip)
    .skip)
   .skip) [])
  (.seq (.ret (.cst (.bl true)))
  .skip))))⟩
def f_next_free (i_are_full : Nat) : CF := ⟨"next_free", 2, ["near", "left", "place", "other"], [], false,
  (.seq (.for_ [2] (.seq (.var 1))
   (.seq (.ifs (.call i_are_full (.val (.var 0) (.val (.lc false (.var 3) [3] (.seq (.var 1)) (.cons (.cmp .In (.var 3) (.ix (.var 0) (.var 2))) .nil)) .nil)))
    (.seq (.ret (.var 2))
    .skip)
    .skip)
   .skip) [])
  (.seq (.ret (.cst .non))
  .skip))⟩
def f_struck_freely (i_next_free : Nat) : CF := ⟨"struck_freely", 1, ["near", "left", "order", "place"], [], false,
  (.seq (.asg 1 true (.rng false (.b1 .len (.var 0))))
  (.seq (.asg 2 true (.lst false .nil))
  (.seq (.asg 3 false (.call i_next_free (.val (.var 0) (.bor 1 .nil))))
  (.seq (.whl (fun _ => 1000000) (.cmp .IsNot (.var 3) (.cst .non))
   (.seq (.ex (.mth (.var 2) .append (.cons (.var 3) .nil)))
   (.seq (.ex (.mth (.var 1) .remove (.cons (.var 3) .nil)))
   (.seq (.asg 3 false (.call i_next_free (.val (.var 0) (.bor 1 .nil))))
   .skip))) [])
  (.seq (.ret (.tup (.cons (.b1 .tuple (.frz 2)) (.cons (.frz 1) .nil))))
  .skip)))))⟩
def f_shortest_way : CF := ⟨"shortest_way", 4, ["near", "one", "other", "allowed", "came", "waiting", "at", "way", "here", "there"], [], false,
  (.seq (.asg 4 true (.done (.var 1) (.cst .non)))
  (.seq (.asg 5 true (.lst false (.cons (.var 1) .nil)))
  (.seq (.asg 6 false (.cst (.int 0)))
  (.seq (.whl (fun _ => 1000000) (.bop true (.cons (.cmp .Lt (.var 6) (.b1 .len (.var 5))) (.cons (.cmp .NotIn (.var 2) (.var 4)) .nil)))
   (.seq (.for_ [9] (.seq (.ix (.var 0) (.ix (.var 5) (.var 6))))
    (.seq (.ifs (.bop true (.cons (.cmp .NotIn (.var 9) (.var 4)) (.cons (.bop false (.cons (.cmp .Eq (.var 9) (.var 2)) (.cons (.cmp .In (.var 9) (.var 3)) .nil))) .nil)))
     (.seq (.setp false (.var 4) (.var 9) (.ix (.var 5) (.var 6)))
     (.seq (.ex (.mth (.var 5) .append (.cons (.var 9) .nil)))
     .skip))
     .skip)
    .skip) [])
   (.seq (.asg 6 false (.bin .Add (.var 6) (.cst (.int 1))))
   .skip)) [9])
  (.seq (.ifs (.cmp .NotIn (.var 2) (.var 4))
   (.seq (.ret (.cst .non))
   .skip)
   .skip)
  (.seq (.asg 7 true (.lst false .nil))
  (.seq (.asg 8 false (.var 2))
  (.seq (.whl (fun _ => 1000000) (.cmp .IsNot (.var 8) (.cst .non))
   (.seq (.ex (.mth (.var 7) .append (.cons (.var 8) .nil)))
   (.seq (.asg 8 false (.ix (.var 4) (.var 8)))
   .skip)) [])
  (.seq (.ret (.b1 .tuple (.frz 7)))
  .skip)))))))))⟩
def f_ring_by (i_shortest_way : Nat) : CF := ⟨"ring_by", 2, ["near", "place", "allowed", "other", "at", "one", "way"], [], false,
  (.seq (.asg 2 true (.dnew false))
  (.seq (.for_ [3] (.rng1 (.b1 .len (.var 0)))
   (.seq (.ifs (.bop true (.cons (.cmp .NotEq (.var 3) (.var 1)) (.cons (.cmp .NotIn (.var 3) (.ix (.var 0) (.var 1))) .nil)))
    (.seq (.setp false (.var 2) (.var 3) (.cst (.bl true)))
    .skip)
    .skip)
   .skip) [])
  (.seq (.for_ [4, 5] (.enum (.ix (.var 0) (.var 1)))
   (.seq (.for_ [3] (.seq (.slc (.ix (.var 0) (.var 1)) (.yes (.bin .Add (.var 4) (.cst (.int 1)))) .no))
    (.seq (.ifs (.cmp .NotIn (.var 3) (.ix (.var 0) (.var 5)))
     (.seq (.asg 6 false (.call i_shortest_way (.val (.var 0) (.val (.var 5) (.val (.var 3) (.val (.frz 2) .nil))))))
     (.seq (.ifs (.cmp .IsNot (.var 6) (.cst .non))
      (.seq (.ret (.bin .Add (.tup (.cons (.var 1) .nil)) (.var 6)))
      .skip)
      .skip)
     .skip))
     .skip)
    .skip) [])
   .skip) [6])
  (.seq (.ret (.cst .non))
  .skip))))⟩
def f_free_or_ring (i_neighbour_rows i_struck_freely i_ring_by : Nat) : CF := ⟨"free_or_ring", 1, ["web", "near", "place", "order", "left", "ring"], [], false,
  (.seq (.asg 1 false (.call i_neighbour_rows (.val (.var 0) .nil)))
  (.seq (.asgT [3, 4] (.call i_struck_freely (.val (.var 1) .nil)))
  (.seq (.for_ [2] (.seq (.var 4))
   (.seq (.asg 5 false (.call i_ring_by (.val (.var 1) (.val (.var 2) .nil))))
   (.seq (.ifs (.cmp .IsNot (.var 5) (.cst .non))
    (.seq (.ret (.tup (.cons (.cst (.str "ring")) (.cons (.var 5) .nil))))
    .skip)
    .skip)
   .skip)) [5])
  (.seq (.ret (.tup (.cons (.cst (.str "order")) (.cons (.var 3) .nil))))
  .skip))))⟩
def f_law_is_free (i_law_are_places i_law_near i_law_are_near : Nat) : CF := ⟨"_law_is_free", 2, ["web", "thing", "near", "k", "place", "other"], [], false,
  (.seq (.ifs (.bop false (.cons (.not (.call i_law_are_places (.val (.ix (.var 0) (.cst (.int 0))) (.val (.var 1) .nil)))) (.cons (.cmp .NotEq (.b1 .len (.var 1)) (.ix (.var 0) (.cst (.int 0)))) .nil)))
   (.seq (.ret (.cst (.bl false)))
   .skip)
   .skip)
  (.seq (.asg 2 false (.call i_law_near (.val (.var 0) .nil)))
  (.seq (.for_ [3, 4] (.enum (.var 1))
   (.seq (.ifs (.not (.call i_law_are_near (.val (.var 2) (.val (.lc false (.var 5) [5] (.seq (.slc (.var 1) (.yes (.bin .Add (.var 3) (.cst (.int 1)))) .no)) (.cons (.cmp .In (.var 5) (.ix (.var 2) (.var 4))) .nil)) .nil))))
    (.seq (.ret (.cst (.bl false)))
    .skip)
    .skip)
   .skip) [])
  (.seq (.ret (.cst (.bl true)))
  .skip))))⟩
def f_law_right (i_free_or_ring i_is_free_order i_law_is_free i_is_ring i_law_is_ring : Nat) : CF := ⟨"_law_right", 1, ["web", "told"], [], false,
  (.seq (.asg 1 false (.call i_free_or_ring (.val (.var 0) .nil)))
  (.seq (.ifs (.bop false (.cons (.not (.isi (.var 1) .tuple)) (.cons (.cmp .NotEq (.b1 .len (.var 1)) (.cst (.int 2))) (.cons (.not (.isi (.ix (.var 1) (.cst (.int 0))) .str)) .nil))))
   (.seq (.ret (.cst (.bl false)))
   .skip)
   .skip)
  (.seq (.ifs (.cmp .Eq (.ix (.var 1) (.cst (.int 0))) (.cst (.str "order")))
   (.seq (.ret (.bop true (.cons (.call i_law_is_free (.val (.var 0) (.val (.ix (.var 1) (.cst (.int 1))) .nil))) (.cons (.cmp .Is (.call i_is_free_order (.val (.var 0) (.val (.ix (.var 1) (.cst (.int 1))) .nil))) (.cst (.bl true))) .nil))))
   .skip)
   .skip)
  (.seq (.ret (.bop true (.cons (.cmp .Eq (.ix (.var 1) (.cst (.int 0))) (.cst (.str "ring"))) (.cons (.call i_law_is_ring (.val (.var 0) (.val (.ix (.var 1) (.cst (.int 1))) .nil))) (.cons (.cmp .Is (.call i_is_ring (.val (.var 0) (.val (.ix (.var 1) (.cst (.int 1))) .nil))) (.cst (.bl true))) .nil)))))
  .skip))))⟩
def f_law_other (i_law_draw i_law_web_of : Nat) : CF := ⟨"_law_other", 2, ["deck", "web", "i", "k", "pairs", "pair"], [0], false,
  (.seq (.ifs (.cmp .Eq (.ix (.var 1) (.cst (.int 0))) (.cst (.int 1)))
   (.seq (.ret (.var 1))
   .skip)
   .skip)
  (.seq (.asg 2 false (.call i_law_draw (.io 0 (.val (.ix (.var 1) (.cst (.int 0))) .nil))))
  (.seq (.asg 3 false (.bin .Mod (.bin .Add (.bin .Add (.var 2) (.cst (.int 1))) (.call i_law_draw (.io 0 (.val (.bin .Sub (.ix (.var 1) (.cst (.int 0))) (.cst (.int 1))) .nil)))) (.ix (.var 1) (.cst (.int 0)))))
  (.seq (.asg 4 false (.lc false (.var 5) [5] (.seq (.ix (.var 1) (.cst (.int 1)))) (.cons (.cmp .NotEq (.b1 .sorted (.var 5)) (.b1 .sorted (.lst false (.cons (.var 2) (.cons (.var 3) .nil))))) .nil)))
  (.seq (.ret (.call i_law_web_of (.val (.ix (.var 1) (.cst (.int 0))) (.val (.bin .Add (.var 4) (.bin .Mult (.lst false (.cons (.tup (.cons (.var 2) (.cons (.var 3) .nil))) .nil)) (.b1 .int (.cmp .Eq (.b1 .len (.var 4)) (.b1 .len (.ix (.var 1) (.cst (.int 1)))))))) .nil))))
  .skip)))))⟩
def f_law_long (i_law_draw i_law_turned i_law_web_of : Nat) : CF := ⟨"_law_long", 1, ["deck", "many", "full", "turned", "pairs", "k", "i"], [0], false,
  (.seq (.asg 1 false (.bin .Add (.cst (.int 7)) (.call i_law_draw (.io 0 (.val (.cst (.int 18)) .nil)))))
  (.seq (.asg 2 false (.call i_law_draw (.io 0 (.val (.cst (.int 3)) .nil))))
  (.seq (.asg 3 false (.call i_law_turned (.io 0 (.val (.var 1) .nil))))
  (.seq (.asg 4 true (.lc false (.tup (.cons (.var 5) (.cons (.bin .Mod (.bin .Add (.var 5) (.cst (.int 1))) (.var 1)) .nil))) [5] (.rng1 (.var 1)) .nil))
  (.seq (.for_ [5] (.rng2 (.cst (.int 2)) (.bin .Sub (.var 1) (.cst (.int 1))))
   (.seq (.ifs (.bop false (.cons (.cmp .Eq (.var 2) (.cst (.int 2))) (.cons (.bop true (.cons (.cmp .Eq (.var 2) (.cst (.int 1))) (.cons (.cmp .Gt (.call i_law_draw (.io 0 (.val (.cst (.int 3)) .nil))) (.cst (.int 0))) .nil))) .nil)))
    (.seq (.ex (.mth (.var 4) .append (.cons (.tup (.cons (.cst (.int 0)) (.cons (.var 5) .nil))) .nil)))
    .skip)
    .skip)
   .skip) [])
  (.seq (.ret (.call i_law_web_of (.val (.var 1) (.val (.lc false (.tup (.cons (.ix (.var 3) (.var 6)) (.cons (.ix (.var 3) (.var 5)) .nil))) [6, 5] (.seq (.frz 4)) .nil) .nil))))
  .skip))))))⟩
def f_law_k40 (i_law_deck i_law_web i_law_draw i_law_long i_free_or_ring i_law_other i_law_right : Nat) : CF := ⟨"law", 1, ["script", "deck", "turn", "web", "kept"], [], false,
  (.seq (.asg 1 true (.call i_law_deck (.val (.var 0) .nil)))
  (.seq (.for_ [2] (.rng1 (.cst (.int 4)))
   (.seq (.asg 3 false (.call i_law_web (.io 1 (.val (.cst (.int 24)) .nil))))
   (.seq (.ifs (.cmp .Eq (.call i_law_draw (.io 1 (.val (.cst (.int 8)) .nil))) (.cst (.int 3)))
    (.seq (.asg 3 false (.call i_law_long (.io 1 .nil)))
    .skip)
    .skip)
   (.seq (.asg 4 false (.b1 .repr (.call i_free_or_ring (.val (.var 3) .nil))))
   (.seq (.ifs (.bop false (.cons (.not (.call i_law_right (.val (.var 3) .nil))) (.cons (.not (.call i_law_right (.val (.call i_law_other (.io 1 (.val (.var 3) .nil))) .nil))) (.cons (.cmp .NotEq (.b1 .repr (.call i_free_or_ring (.val (.var 3) .nil))) (.var 4)) .nil))))
    (.seq (.ret (.cst (.bl false)))
    .skip)
    .skip)
   .skip)))) [3, 4])
  (.seq (.ret (.cst (.bl true)))
  .skip)))⟩
end Mini
set_option linter.all false
set_option maxRecDepth 100000
namespace Mini
open PySem L2
def seqN (s : Mini.D) (l : List Nat) : Prop := s = .tup (natsD l) ∨ s = .lst false (natsD l)
theorem cutN {l : List Nat} {k : Nat} : cutD (natsD l) (some ((k : Int) + 1)) none = natsD (l.drop (k + 1)) := by
  rw [cut_from1, natsD, natsD, List.map_drop]
/-- any two of them near -/
def Full (w : Web) (l : List Nat) : Prop := l.Pairwise w.adj
instance {w : Web} {l : List Nat} : Decidable (Full w l) := inferInstanceAs (Decidable (l.Pairwise w.adj))
theorem full_iff {w : Web} {l : List Nat} : Full w l ↔ ∀ a b (_ : a < b) (_ : b < l.length), w.adj l[a] l[b] := by
  unfold Full
  rw [List.pairwise_iff_getElem]
  exact ⟨fun h a b hab hb => h a b (by omega) hb hab, fun h a b ha hb hab => h a b hab hb⟩
def AreFullS (F : List Mini.D → Cr) : Prop := ∀ (w : Web) (l : List Nat) (s : Mini.D), w.ok → (∀ x ∈ l, x < w.n) → l.length ≤ 1000 → seqN s l → (F [rowsD w.n w.nb, s]).S (fun r o => ∃ b, r = .bl b ∧ (b = true ↔ Full w l) ∧ o = []) noX
theorem areFull_ok {Φ : Phi} : AreFullS (rF Φ f_are_full) := by
  intro w l s hw hlt hl hs
  refine S_def rfl ?_
  have main : ∀ s : Mini.D, s.pure = true → itemsOf s.frz = some (natsD l) → (∀ k : Nat, (slcD s (some ((k : Int) + 1)) none).bind (fun d => itemsOf d.frz) = some (natsD (l.drop (k + 1)))) → (∀ k : Nat, ∃ d, slcD s (some ((k : Int) + 1)) none = some d) →
      (dS Φ f_are_full.body (f_are_full.start [rowsD w.n w.nb, s])).S (retK f_are_full.io f_are_full.own (fun r o => ∃ b, r = .bl b ∧ (b = true ↔ Full w l) ∧ o = []) .t) (excK f_are_full.io noX .t) := by
    intro s hsp hsi hsl hsd
    have hsf := frz_pure hsp
    rw [hsf] at hsi
    simp [f_are_full, CF.start, hsp, hsi]
    refine forX_enumN l (fun k ρ => ρ = [some (rowsD w.n w.nb), some s, none, none, none] ∧ ∀ a b (_ : a < b) (_ : b < l.length), a < k → w.adj l[a] l[b]) ⟨rfl, by intros; omega⟩ ?_ ?_
    · rintro k hk ρ ⟨rfl, hI⟩
      have hlk : l[k] < w.n := hlt _ (List.getElem_mem hk)
      have g2 := rowsD_get (nb := w.nb) hlk
      obtain ⟨d, ed⟩ := hsd k
      have ed2 := hsl k
      rw [ed, Option.bind_some] at ed2
      simp [hsp, ed, ed2]
      refine forX_ixN (l.drop (k + 1)) (fun j ρ => ρ = [some (rowsD w.n w.nb), some s, some (.int k), some (.int l[k]), none] ∧ ∀ b (_ : k < b) (_ : b < l.length), b < k + 1 + j → w.adj l[k] l[b]) ⟨rfl, by intros; omega⟩ ?_ ?_
      · rintro j hj ρ ⟨rfl, hJ⟩
        have hb : k + 1 + j < l.length := by simp at hj; omega
        have eg : (l.drop (k + 1))[j] = l[k + 1 + j] := by simp
        rw [eg]
        have iff1 : (l[k + 1 + j] ∈ w.nb l[k]) ↔ w.adj l[k] l[k + 1 + j] := mem_rowOf
        simp [SS_ifs, g2]
        refine condK_i (fun h => ?_) (fun h => ?_)
        · simp at h
          simp
          rw [full_iff]
          intro hf
          exact h (iff1.mpr (hf k _ (by omega) hb))
        · simp at h
          simp
          intro b h1 h2 h3
          by_cases hbb : b < k + 1 + j
          · exact hJ b h1 h2 hbb
          · have : b = k + 1 + j := by omega
            subst this
            exact iff1.mp h
      · rintro ρ ⟨rfl, hJ⟩
        simp
        intro a b hab hb hak
        by_cases hk2 : a < k
        · exact hI a b hab hb hk2
        · have : a = k := by omega
          subst this
          exact hJ b hab hb (by simp; omega)
    · rintro ρ ⟨rfl, hI⟩
      simp
      rw [full_iff]
      exact fun a b hab hb => hI a b hab hb (by omega)
  rcases hs with rfl | rfl
  · exact main _ rfl rfl (fun k => by rw [slc_tup, cutN]; rfl) (fun k => ⟨_, rfl⟩)
  · refine main _ rfl rfl (fun k => ?_) (fun k => ?_)
    · rw [slc_lst, if_pos pures_natsD, cutN]; simp
    · rw [slc_lst, if_pos pures_natsD]; exact ⟨_, rfl⟩
/-- any two unlike ones near -/
def FullU (w : Web) (l : List Nat) : Prop := ∀ i ∈ l, ∀ k ∈ l, k ≠ i → w.adj i k
theorem fullU_iff {w : Web} {l : List Nat} (hw : w.ok) (hn : l.Nodup) : FullU w l ↔ Full w l := by
  rw [full_iff]
  constructor
  · intro h a b hab hb
    exact h _ (List.getElem_mem _) _ (List.getElem_mem _) fun e => by have := (List.getElem_inj hn).mp e; omega
  · intro h i hi k hk hne
    obtain ⟨a, ha, rfl⟩ := List.getElem_of_mem hi
    obtain ⟨b, hb, rfl⟩ := List.getElem_of_mem hk
    rcases Nat.lt_trichotomy a b with hab | hab | hab
    · exact h a b hab hb
    · subst hab; exact absurd rfl hne
    · exact hw.symm _ _ (h b a hab ha)
def AreNearS (F : List Mini.D → Cr) : Prop := ∀ (w : Web) (l : List Nat) (s : Mini.D), w.ok → (∀ x ∈ l, x < w.n) → l.length ≤ 1000 → seqN s l → (F [neardD w.n w.nb, s]).S (fun r o => ∃ b, r = .bl b ∧ (b = true ↔ FullU w l) ∧ o = []) noX
theorem natsD_nil {l : List Nat} : (natsD l).isEmpty = true ↔ l = [] := by
  cases l <;> simp [natsD]
theorem areNear_ok {Φ : Phi} : AreNearS (rF Φ f_law_are_near) := by
  intro w l s hw hlt hl hs
  refine S_def rfl ?_
  have z : l.length < 16777216 := by omega
  have main : ∀ s : Mini.D, s.pure = true → itemsOf s = some (natsD l) →
      (dS Φ f_law_are_near.body (f_law_are_near.start [neardD w.n w.nb, s])).S (retK f_law_are_near.io f_law_are_near.own (fun r o => ∃ b, r = .bl b ∧ (b = true ↔ FullU w l) ∧ o = []) .t) (excK f_law_are_near.io noX .t) := by
    intro s hsp hsi
    simp [f_law_are_near, CF.start, hsp, hsi]
    refine forX_ixN l (fun k ρ => ρ = [some (neardD w.n w.nb), some s, none, none] ∧ ∀ a (_ : a < l.length), a < k → ∀ k ∈ l, k ≠ l[a] → w.adj l[a] k) ⟨rfl, by intros; omega⟩ ?_ ?_
    · rintro k hk ρ ⟨rfl, hI⟩
      have hlk : l[k] < w.n := hlt _ (List.getElem_mem hk)
      have g2 := neardD_get (nb := w.nb) hlk
      simp [SS_ifs, hsp, hsi, sizeLine_eq, z]
      refine lcX_filtV (fun x => decide (x ≠ l[k] ∧ x ∉ w.nb l[k])) l rfl (fun x hx => ?_) ?_
      · simp [Int.natCast_inj]
        refine condK_i (fun h => ?_) (fun h => ?_)
        · simp at h
          simp [g2, h]
        · simp at h
          simp [h]
      · have hem : (natsD (l.filter fun x => decide (x ≠ l[k] ∧ x ∉ w.nb l[k]))).isEmpty = true ↔ ∀ x ∈ l, x ≠ l[k] → x ∈ w.nb l[k] := by
          rw [natsD_nil, List.filter_eq_nil_iff]
          simp
        generalize l.filter (fun x => decide (x ≠ l[k] ∧ x ∉ w.nb l[k])) = fl at hem ⊢
        simp
        generalize (natsD fl).isEmpty = e at hem ⊢
        cases e with
        | false =>
          simp
          intro hf
          have := hem.mpr fun x hx hne => mem_rowOf.mpr (hf _ (List.getElem_mem hk) x hx hne)
          cases this
        | true =>
          have h' := hem.mp rfl
          simp
          intro a ha hak x hx hne
          by_cases hk2 : a < k
          · exact hI a ha hk2 x hx hne
          · have : a = k := by omega
            subst this
            exact mem_rowOf.mp (h' x hx hne)
    · rintro ρ ⟨rfl, hI⟩
      simp
      intro i hi k hk hne
      obtain ⟨a, ha, rfl⟩ := List.getElem_of_mem hi
      exact hI a ha ha k hk hne
  rcases hs with rfl | rfl
  · exact main _ rfl rfl
  · exact main _ rfl rfl
end Mini
set_option linter.all false
set_option maxRecDepth 100000
namespace Mini
open PySem L2
def OrdOf (n : Nat) (d : Mini.D) : Prop := ∃ l : List Nat, d = .tup (natsD l) ∧ l.Perm (List.range n)
theorem OrdOf_iff {n : Nat} {l : List Nat} : OrdOf n (.tup (natsD l)) ↔ l.Perm (List.range n) := by
  constructor
  · rintro ⟨l', e, h⟩
    have := natsD_inj (D.tup.inj e)
    subst this; exact h
  · exact fun h => ⟨l, rfl, h⟩
def IsOrderS (F : List Mini.D → Cr) : Prop := ∀ (n : Nat) (d : Mini.D), Thing d → n ≤ 1000 → (F [.int n, d]).S (fun r o => ∃ b, r = .bl b ∧ (b = true ↔ OrdOf n d) ∧ o = []) noX
theorem range_sorted (n : Nat) : ((List.range n).map fun k : Nat => (k : Int)).Pairwise (· ≤ ·) := by
  rw [List.pairwise_map]
  exact List.pairwise_lt_range.imp fun h => by omega
theorem isOrder_ok {Φ : Phi} {f : Nat} (hw : WholeS (Φ f)) : IsOrderS (rF Φ (f_is_order f)) := by
  intro n d ⟨hp, hd⟩ hn
  refine S_def rfl ?_
  cases d with
  | raw xs => exact hd.elim
  | scr ns => exact hd.elim
  | tup xs =>
    obtain ⟨hl, hx⟩ := hd
    simp [f_is_order, CF.start, SS_ifs, isiD, sizeLine_eq, Int.natCast_inj]
    refine condK_i (fun h => ?_) (fun h => ?_)
    · simp at h
      simp
      rintro ⟨l, e, h2⟩
      have e2 : xs = natsD l := D.tup.inj e
      apply h
      rw [e2, natsD_length, h2.length_eq, List.length_range]
    · simp at h
      simp [sizeLine_eq]
      refine ⟨by omega, ?_⟩
      refine lcX_mapi (fun x => .bl (wholeD x)) xs (fun x hxm => ?_) ?_
      · have hxp := hx x hxm
        simp [hxp]
        refine Cr.S_use (hw x hxp) ?_
        rintro _ _ ⟨rfl, rfl⟩
        simp [hxp]
      · simp
        refine condK_i (fun h2 => ?_) (fun h2 => ?_)
        · simp at h2
          obtain ⟨x, hxm, hxw⟩ := h2
          simp
          rintro ⟨l, e, _⟩
          have e2 : xs = natsD l := D.tup.inj e
          rw [e2] at hxm
          obtain ⟨k, _, rfl⟩ := List.mem_map.mp hxm
          cases hxw
        · have h3 : ∀ x ∈ xs, wholeD x = true := by simpa using h2
          obtain ⟨ns, rfl⟩ := whole_all h3
          have e1 : sortedD (.tup (ns.map D.int)) = some (.lst true ((sortI ns).map D.int)) := sortedD_intsT intsOf_map
          have e2 : rangeD 0 n = ((List.range n).map fun k : Nat => (k : Int)).map D.int := by simp [rangeD]
          have z1 : (-1000000 : Int) ≤ n := by omega
          have z2 : (n : Int) ≤ 1000000 := by omega
          simp [e1, e2, z1, z2, -List.map_map]
          have key : sortI ns = (List.range n).map (fun k : Nat => (k : Int)) ↔ ns.Perm ((List.range n).map fun k : Nat => (k : Int)) := by
            constructor
            · intro h; rw [← h]; exact (pSortI ns).symm
            · intro h; exact sorted_unique sortI_sorted (range_sorted n) ((pSortI ns).trans h)
          rw [key]
          constructor
          · intro hpm
            obtain ⟨l, rfl⟩ := nats_of_ints (ns := ns) fun i hi => by
              have := hpm.mem_iff.mp hi
              obtain ⟨k, _, rfl⟩ := List.mem_map.mp this
              omega
            refine ⟨l, by rw [natsD_eq], perm_cast.mp hpm⟩
          · rintro ⟨l, e, hpm⟩
            have e3 : ns.map D.int = natsD l := D.tup.inj e
            have e4 := congrArg intsOf e3
            rw [natsD_eq, intsOf_map, intsOf_map, Option.some.injEq] at e4
            rw [e4]
            exact perm_cast.mpr hpm
  | _ =>
    simp [f_is_order, CF.start, hp, SS_ifs, isiD]
    rintro ⟨l, e, _⟩
    cases e
/-- struck so, nothing fills -/
def FreeL (w : Web) (l : List Nat) : Prop := l.Perm (List.range w.n) ∧ ∀ k (h : k < l.length), Full w ((l.drop (k + 1)).filter fun x => decide (x ∈ w.nb l[k]))
def FreeOf (w : Web) (d : Mini.D) : Prop := ∃ l : List Nat, d = .tup (natsD l) ∧ FreeL w l
theorem FreeOf_iff {w : Web} {l : List Nat} : FreeOf w (.tup (natsD l)) ↔ FreeL w l := by
  constructor
  · rintro ⟨l', e, h⟩
    have := natsD_inj (D.tup.inj e)
    subst this; exact h
  · exact fun h => ⟨l, rfl, h⟩
def IsFreeS (F : List Mini.D → Cr) : Prop := ∀ (w : Web) (d : Mini.D), w.ok → Thing d → (F [w.D, d]).S (fun r o => ∃ b, r = .bl b ∧ (b = true ↔ FreeOf w d) ∧ o = []) noX
theorem isFree_ok {Φ : Phi} {fo fn ff : Nat} (ho : IsOrderS (Φ fo)) (hn : NbrsS (Φ fn)) (hf : AreFullS (Φ ff)) : IsFreeS (rF Φ (f_is_free_order fo fn ff)) := by
  intro w d hw hd
  refine S_def rfl ?_
  have hdp : d.pure = true := hd.1
  have e0 : w.D = .tup [.int w.n, .tup (w.cells.map cellD)] := rfl
  rw [e0]
  have hwn := hw.le
  simp [f_is_free_order, CF.start, SS_ifs, hdp]
  refine Cr.S_use (ho w.n d hd (by omega)) ?_
  rintro _ _ ⟨b, rfl, hb, rfl⟩
  simp
  refine condK_i (fun h => ?_) (fun h => ?_)
  · simp at h
    subst h
    simp
    rintro ⟨l, rfl, h1, h2⟩
    have := hb.mpr ⟨l, rfl, h1⟩
    cases this
  · simp at h
    subst h
    obtain ⟨l, rfl, hpm⟩ := hb.mp rfl
    have hlen : l.length = w.n := by simpa using hpm.length_eq
    have hlt : ∀ x ∈ l, x < w.n := fun x hx => by simpa using hpm.mem_iff.mp hx
    simp
    rw [← e0]
    refine Cr.S_use (hn w hw) ?_
    rintro _ _ ⟨rfl, rfl⟩
    simp
    refine forX_enumN l (fun k ρ => ρ = [some w.D, some (.tup (natsD l)), some (rowsD w.n w.nb), none, none, none] ∧ ∀ a (h : a < l.length), a < k → Full w ((l.drop (a + 1)).filter fun x => decide (x ∈ w.nb l[a]))) ⟨rfl, by intros; omega⟩ ?_ ?_
    · rintro k hk ρ ⟨rfl, hI⟩
      have hlk : l[k] < w.n := hlt _ (List.getElem_mem hk)
      have g2 := rowsD_get (nb := w.nb) hlk
      have z : l.length - (k + 1) < 16777216 := by omega
      simp [SS_ifs, cutN, sizeLine_eq, z]
      refine lcX_filtV (fun x => decide (x ∈ w.nb l[k])) (l.drop (k + 1)) rfl (fun x hx => by simp [g2]) ?_
      simp
      refine Cr.S_use (hf w ((l.drop (k + 1)).filter fun x => decide (x ∈ w.nb l[k])) _ hw (fun x hx => hlt x (List.mem_of_mem_drop (List.mem_filter.mp hx).1)) (Nat.le_trans (List.length_filter_le _ _) (by simp; omega)) (Or.inr rfl)) ?_
      rintro _ _ ⟨b, rfl, hb2, rfl⟩
      simp
      refine condK_i (fun h => ?_) (fun h => ?_)
      · simp at h
        subst h
        simp
        rw [FreeOf_iff]
        rintro ⟨_, h2⟩
        have := hb2.mpr (h2 k hk)
        cases this
      · simp at h
        subst h
        simp
        intro a ha hak
        by_cases hk2 : a < k
        · exact hI a ha hk2
        · have : a = k := by omega
          subst this
          exact hb2.mp rfl
    · rintro ρ ⟨rfl, hI⟩
      simp
      rw [FreeOf_iff]
      exact ⟨hpm, fun k hk => hI k hk hk⟩
theorem perm_range {n : Nat} {l : List Nat} (hlt : ∀ x ∈ l, x < n) (hnd : l.Nodup) (hlen : l.length = n) : l.Perm (List.range n) := by
  rw [List.perm_ext_iff_of_nodup hnd List.nodup_range]
  intro i
  rw [List.mem_range]
  refine ⟨hlt i, fun hi => ?_⟩
  apply Classical.byContradiction
  intro hn
  have hnd2 : (i :: l).Nodup := List.nodup_cons.mpr ⟨hn, hnd⟩
  have := List.Nodup.length_le_of_subset hnd2 (l₂ := List.range n) (fun x hx => by
    rcases List.mem_cons.mp hx with rfl | hx
    · simpa using hi
    · simpa using hlt x hx)
  simp at this
  omega
theorem lisFree_ok {Φ : Phi} {fp fn ff : Nat} (hp : ArePlS (Φ fp)) (hn : NearS (Φ fn)) (hf : AreNearS (Φ ff)) : IsFreeS (rF Φ (f_law_is_free fp fn ff)) := by
  intro w d hw hd
  refine S_def rfl ?_
  have hdp : d.pure = true := hd.1
  have e0 : w.D = .tup [.int w.n, .tup (w.cells.map cellD)] := rfl
  rw [e0]
  have hwn := hw.le
  simp [f_law_is_free, CF.start, SS_ifs, hdp]
  refine Cr.S_use (hp w.n d hd) ?_
  rintro _ _ ⟨rfl, rfl⟩
  simp
  refine condK_i (fun h => ?_) (fun h => ?_)
  · simp
    rintro ⟨l, rfl, h1, h2⟩
    have : isPl w.n (.tup (natsD l)) = true := isPl_iff.mpr ⟨l, rfl, fun x hx => by simpa using h1.mem_iff.mp hx, h1.nodup_iff.mpr List.nodup_range⟩
    rw [this] at h
    cases h
  · have h' : isPl w.n d = true := by simpa using h
    obtain ⟨l, rfl, hlt, hnd⟩ := isPl_iff.mp h'
    simp [Int.natCast_inj]
    refine condK_i (fun h => ?_) (fun h => ?_)
    · simp at h
      simp
      rw [FreeOf_iff]
      rintro ⟨h1, _⟩
      apply h
      simpa using h1.length_eq
    · simp at h
      have hpm := perm_range hlt hnd h
      simp
      rw [← e0]
      refine Cr.S_use (hn w hw) ?_
      rintro _ _ ⟨rfl, rfl⟩
      simp
      refine forX_enumN l (fun k ρ => ρ = [some w.D, some (.tup (natsD l)), some (neardD w.n w.nb), none, none, none] ∧ ∀ a (h : a < l.length), a < k → Full w ((l.drop (a + 1)).filter fun x => decide (x ∈ w.nb l[a]))) ⟨rfl, by intros; omega⟩ ?_ ?_
      · rintro k hk ρ ⟨rfl, hI⟩
        have hlk : l[k] < w.n := hlt _ (List.getElem_mem hk)
        have g2 := neardD_get (nb := w.nb) hlk
        have z : l.length - (k + 1) < 16777216 := by omega
        simp [SS_ifs, cutN, sizeLine_eq, z]
        refine lcX_filtV (fun x => decide (x ∈ w.nb l[k])) (l.drop (k + 1)) rfl (fun x hx => by simp [g2]) ?_
        simp
        refine Cr.S_use (hf w ((l.drop (k + 1)).filter fun x => decide (x ∈ w.nb l[k])) _ hw (fun x hx => hlt x (List.mem_of_mem_drop (List.mem_filter.mp hx).1)) (Nat.le_trans (List.length_filter_le _ _) (by simp; omega)) (Or.inr rfl)) ?_
        rintro _ _ ⟨b, rfl, hb2, rfl⟩
        have hnd2 : ((l.drop (k + 1)).filter fun x => decide (x ∈ w.nb l[k])).Nodup := (hnd.sublist (List.drop_sublist _ _)).filter _
        rw [fullU_iff hw hnd2] at hb2
        simp
        refine condK_i (fun h => ?_) (fun h => ?_)
        · simp at h
          subst h
          simp
          rw [FreeOf_iff]
          rintro ⟨_, h2⟩
          have := hb2.mpr (h2 k hk)
          cases this
        · simp at h
          subst h
          simp
          intro a ha hak
          by_cases hk2 : a < k
          · exact hI a ha hk2
          · have : a = k := by omega
            subst this
            exact hb2.mp rfl
      · rintro ρ ⟨rfl, hI⟩
        simp
        rw [FreeOf_iff]
        exact ⟨hpm, fun k hk => hI k hk hk⟩
theorem nb_nodup {w : Web} (hw : w.ok) (p : Nat) : (w.nb p).Nodup := by
  have hnd : w.cells.Nodup := hw.ris.imp fun h e => by subst e; unfold ltP at h; omega
  unfold Web.nb rowOf
  rw [List.Nodup, List.pairwise_map]
  refine (List.Pairwise.filter _ hnd).imp_of_mem ?_
  intro a b ha hb hab e
  have h1 := (List.mem_filter.mp ha).2
  have h2 := (List.mem_filter.mp hb).2
  simp at h1 h2
  exact hab (Prod.ext (by omega) e)
end Mini
set_option linter.all false
set_option maxRecDepth 100000
/-! D46: the defs new with law k46, as terms. Printed by libgen.py. -/
namespace Mini
open PySem L2
def f_are_colours (i_is_whole : Nat) : CF := ⟨"are_colours", 3, ["near", "most", "thing", "place", "others", "one", "other"], [], false,
  (.seq (.ifs (.bop false (.cons (.not (.isi (.var 2) .tuple)) (.cons (.cmp .NotEq (.b1 .len (.var 2)) (.b1 .len (.var 0))) .nil)))
   (.seq (.ret (.cst (.bl false)))
   .skip)
   .skip)
  (.seq (.ifs (.not (.b1 .all (.lc false (.bop true (.cons (.call i_is_whole (.val (.var 5) .nil)) (.cons (.chn .LtE .Lt (.cst (.int 0)) (.var 5) (.var 1)) .nil))) [5] (.seq (.var 2)) .nil)))
   (.seq (.ret (.cst (.bl false)))
   .skip)
   .skip)
  (.seq (.for_ [3, 4] (.enum (.var 0))
   (.seq (.ifs (.cmp .In (.ix (.var 2) (.var 3)) (.lc false (.ix (.var 2) (.var 6)) [6] (.seq (.var 4)) .nil))
    (.seq (.ret (.cst (.bl false)))
    .skip)
    .skip)
   .skip) [])
  (.seq (.ret (.cst (.bl true)))
  .skip))))⟩
def f_is_full_set (i_are_places i_are_full : Nat) : CF := ⟨"is_full_set", 2, ["near", "thing"], [], false,
  (.seq (.ifs (.bop false (.cons (.not (.call i_are_places (.val (.b1 .len (.var 0)) (.val (.var 1) .nil)))) (.cons (.cmp .Eq (.var 1) (.tup .nil)) .nil)))
   (.seq (.ret (.cst (.bl false)))
   .skip)
   .skip)
  (.seq (.ret (.bop true (.cons (.cmp .Eq (.b1 .list (.var 1)) (.b1 .sorted (.var 1))) (.cons (.call i_are_full (.val (.var 0) (.val (.var 1) .nil))) .nil))))
  .skip))⟩
def f_coloured_holds (i_neighbour_rows i_are_colours i_is_full_set : Nat) : CF := ⟨"coloured_holds", 2, ["web", "thing", "near"], [], false,
  (.seq (.ifs (.bop false (.cons (.not (.isi (.var 1) .tuple)) (.cons (.cmp .NotEq (.b1 .len (.var 1)) (.cst (.int 2))) .nil)))
   (.seq (.ret (.cst (.bl false)))
   .skip)
   .skip)
  (.seq (.asg 2 false (.call i_neighbour_rows (.val (.var 0) .nil)))
  (.seq (.ret (.bop true (.cons (.call i_is_full_set (.val (.var 2) (.val (.ix (.var 1) (.cst (.int 1))) .nil))) (.cons (.call i_are_colours (.val (.var 2) (.val (.b1 .len (.ix (.var 1) (.cst (.int 1)))) (.val (.ix (.var 1) (.cst (.int 0))) .nil)))) .nil))))
  .skip)))⟩
def f_law_near_k46 : CF := ⟨"_law_near", 1, ["web", "near", "i", "k"], [], true,
  (.seq (.asg 1 true (.lc true (.dnew false) [3] (.rng1 (.ix (.var 0) (.cst (.int 0)))) .nil))
  (.seq (.for_ [2, 3] (.seq (.ix (.var 0) (.cst (.int 1))))
   (.seq (.setp false (.ix (.var 1) (.var 2)) (.var 3) (.cst (.bl true)))
   .skip) [])
  (.seq (.ret (.mv 1))
  .skip)))⟩
def f_law_free_web (i_law_draw i_law_turned i_law_web_of : Nat) : CF := ⟨"_law_free_web", 2, ["deck", "most", "great", "full", "many", "turned", "ahead", "pairs", "k", "some", "base", "other"], [0], false,
  (.seq (.asg 2 false (.b1 .int (.cmp .Eq (.call i_law_draw (.io 0 (.val (.cst (.int 8)) .nil))) (.cst (.int 5)))))
  (.seq (.asg 3 false (.call i_law_draw (.io 0 (.val (.cst (.int 4)) .nil))))
  (.seq (.asg 4 false (.ix (.lst false (.cons (.bin .Add (.cst (.int 1)) (.call i_law_draw (.io 0 (.val (.cst (.int 6)) .nil)))) (.cons (.b2 .max (.cst (.int 1)) (.bin .Sub (.var 1) (.call i_law_draw (.io 0 (.val (.cst (.int 4)) .nil))))) .nil))) (.var 2)))
  (.seq (.asg 5 false (.call i_law_turned (.io 0 (.val (.var 4) .nil))))
  (.seq (.asg 6 true (.lst false .nil))
  (.seq (.asg 7 true (.lst false .nil))
  (.seq (.for_ [8] (.rng1 (.var 4))
   (.seq (.asg 9 false (.lst false .nil))
   (.seq (.ifs (.cmp .Gt (.var 8) (.cst (.int 0)))
    (.seq (.asg 10 false (.call i_law_draw (.io 0 (.val (.var 8) .nil))))
    (.seq (.asg 9 false (.lc false (.var 11) [11] (.seq (.bin .Add (.lst false (.cons (.var 10) .nil)) (.ix (.var 6) (.var 10)))) (.cons (.bop false (.cons (.cmp .Eq (.var 3) (.cst (.int 0))) (.cons (.cmp .Gt (.call i_law_draw (.io 0 (.val (.cst (.int 4)) .nil))) (.cst (.int 0))) .nil))) .nil)))
    .skip))
    .skip)
   (.seq (.ex (.mth (.var 6) .append (.cons (.var 9) .nil)))
   (.seq (.ex (.mth (.var 7) .extend (.cons (.lc false (.tup (.cons (.ix (.var 5) (.var 8)) (.cons (.ix (.var 5) (.var 11)) .nil))) [11] (.seq (.var 9)) .nil) .nil)))
   .skip)))) [9])
  (.seq (.ret (.tup (.cons (.call i_law_web_of (.val (.var 4) (.val (.frz 7) .nil))) (.cons (.b1 .tuple (.rev (.var 5))) .nil))))
  .skip))))))))⟩
def f_law_sets_by (i_law_near : Nat) : CF := ⟨"_law_sets_by", 2, ["web", "order", "near", "some", "found", "one", "k", "place", "other"], [], false,
  (.seq (.asg 2 false (.call i_law_near (.val (.var 0) .nil)))
  (.seq (.asg 3 true (.lst false .nil))
  (.seq (.for_ [6, 7] (.enum (.var 1))
   (.seq (.ex (.mth (.var 3) .append (.cons (.b1 .sorted (.bin .Add (.lst false (.cons (.var 7) .nil)) (.lc false (.var 8) [8] (.seq (.slc (.var 1) (.yes (.bin .Add (.var 6) (.cst (.int 1)))) .no)) (.cons (.cmp .In (.var 8) (.ix (.var 2) (.var 7))) .nil)))) .nil)))
   .skip) [])
  (.seq (.asg 4 true (.lst false .nil))
  (.seq (.for_ [5] (.seq (.frz 3))
   (.seq (.ifs (.cmp .Eq (.lc false (.cst (.int 1)) [8] (.seq (.frz 3)) (.cons (.bop true (.cons (.cmp .Gt (.b1 .len (.var 8)) (.b1 .len (.var 5))) (.cons (.cmp .Eq (.lc false (.var 6) [6] (.seq (.var 5)) (.cons (.cmp .NotIn (.var 6) (.var 8)) .nil)) (.lst false .nil)) .nil))) .nil)) (.lst false .nil))
    (.seq (.ex (.mth (.var 4) .append (.cons (.b1 .tuple (.var 5)) .nil)))
    .skip)
    .skip)
   .skip) [])
  (.seq (.ret (.b1 .tuple (.b1 .sorted (.var 4))))
  .skip))))))⟩
def f_law_is_coloured (i_law_are_places i_law_whole i_law_near i_law_are_near : Nat) : CF := ⟨"_law_is_coloured", 2, ["web", "thing", "colours", "some", "one", "i", "k"], [], false,
  (.seq (.ifs (.bop false (.cons (.not (.isi (.var 1) .tuple)) (.cons (.cmp .NotEq (.b1 .len (.var 1)) (.cst (.int 2))) (.cons (.not (.isi (.ix (.var 1) (.cst (.int 0))) .tuple)) .nil))))
   (.seq (.ret (.cst (.bl false)))
   .skip)
   .skip)
  (.seq (.asgT [2, 3] (.var 1))
  (.seq (.ifs (.bop false (.cons (.not (.call i_law_are_places (.val (.ix (.var 0) (.cst (.int 0))) (.val (.var 3) .nil)))) (.cons (.cmp .Eq (.var 3) (.tup .nil)) (.cons (.cmp .NotEq (.b1 .list (.var 3)) (.b1 .sorted (.var 3))) .nil))))
   (.seq (.ret (.cst (.bl false)))
   .skip)
   .skip)
  (.seq (.ifs (.bop false (.cons (.cmp .NotEq (.b1 .len (.var 2)) (.ix (.var 0) (.cst (.int 0)))) (.cons (.cmp .NotEq (.lc false (.var 4) [4] (.seq (.var 2)) (.cons (.bop false (.cons (.not (.call i_law_whole (.val (.var 4) .nil))) (.cons (.not (.chn .LtE .Lt (.cst (.int 0)) (.var 4) (.b1 .len (.var 3)))) .nil))) .nil)) (.lst false .nil)) .nil)))
   (.seq (.ret (.cst (.bl false)))
   .skip)
   .skip)
  (.seq (.ifs (.not (.call i_law_are_near (.val (.call i_law_near (.val (.var 0) .nil)) (.val (.var 3) .nil))))
   (.seq (.ret (.cst (.bl false)))
   .skip)
   .skip)
  (.seq (.ret (.cmp .Eq (.lc false (.cst (.int 1)) [5, 6] (.seq (.ix (.var 0) (.cst (.int 1)))) (.cons (.cmp .Eq (.ix (.var 2) (.var 5)) (.ix (.var 2) (.var 6))) .nil)) (.lst false .nil)))
  .skip))))))⟩
def f_law_greedy (i_law_near : Nat) : CF := ⟨"_law_greedy", 2, ["web", "order", "near", "colours", "place", "taken", "other", "one"], [], false,
  (.seq (.asg 2 true (.call i_law_near (.val (.var 0) .nil)))
  (.seq (.asg 3 true (.dnew false))
  (.seq (.for_ [4] (.seq (.var 1))
   (.seq (.asg 5 false (.lc false (.ix (.var 3) (.var 6)) [6] (.keysP (.ix (.var 2) (.var 4))) (.cons (.cmp .In (.var 6) (.var 3)) .nil)))
   (.seq (.setp false (.var 3) (.var 4) (.b1 .min (.lc false (.var 7) [7] (.rng1 (.bin .Add (.ix (.var 0) (.cst (.int 0))) (.cst (.int 1)))) (.cons (.cmp .NotIn (.var 7) (.var 5)) .nil))))
   .skip)) [5])
  (.seq (.ret (.b1 .tuple (.lc false (.ix (.var 3) (.var 4)) [4] (.rng1 (.ix (.var 0) (.cst (.int 0)))) .nil)))
  .skip))))⟩
def f_law_exchanged (i_law_turned : Nat) : CF := ⟨"_law_exchanged", 2, ["deck", "colours", "most", "turned", "one"], [0], false,
  (.seq (.asg 2 false (.bin .Add (.b1 .max (.var 1)) (.cst (.int 1))))
  (.seq (.asg 3 false (.call i_law_turned (.io 0 (.val (.var 2) .nil))))
  (.seq (.ret (.b1 .tuple (.lc false (.ix (.var 3) (.var 4)) [4] (.seq (.var 1)) .nil)))
  .skip)))⟩
def f_law_any_set (i_law_near i_law_turned : Nat) : CF := ⟨"_law_any_set", 2, ["deck", "web", "near", "found", "place", "other"], [0], false,
  (.seq (.asg 2 false (.call i_law_near (.val (.var 1) .nil)))
  (.seq (.asg 3 true (.lst false .nil))
  (.seq (.for_ [4] (.seq (.call i_law_turned (.io 0 (.val (.ix (.var 1) (.cst (.int 0))) .nil))))
   (.seq (.ifs (.cmp .Eq (.lc false (.var 5) [5] (.seq (.var 3)) (.cons (.cmp .NotIn (.var 5) (.ix (.var 2) (.var 4))) .nil)) (.lst false .nil))
    (.seq (.ex (.mth (.var 3) .append (.cons (.var 4) .nil)))
    .skip)
    .skip)
   .skip) [])
  (.seq (.ret (.b1 .tuple (.b1 .sorted (.var 3))))
  .skip))))⟩
def f_law_told_k46 (i_coloured_holds i_law_is_coloured : Nat) : CF := ⟨"_law_told", 2, ["web", "thing", "kept", "found"], [], false,
  (.seq (.asg 2 false (.b1 .repr (.var 1)))
  (.seq (.asg 3 false (.call i_coloured_holds (.val (.var 0) (.val (.var 1) .nil))))
  (.seq (.ret (.bop true (.cons (.isi (.var 3) .bool) (.cons (.cmp .Eq (.var 3) (.call i_law_is_coloured (.val (.var 0) (.val (.var 1) .nil)))) (.cons (.cmp .Eq (.b1 .repr (.var 1)) (.var 2)) .nil)))))
  .skip)))⟩
def f_law_things (i_law_spoilt i_law_draw i_law_odd : Nat) : CF := ⟨"_law_things", 3, ["deck", "web", "goods", "things", "good", "k", "more", "thing", "colours", "some", "one"], [0], false,
  (.seq (.asg 3 true (.lst false .nil))
  (.seq (.for_ [4] (.seq (.var 2))
   (.seq (.asgT [8, 9] (.var 4))
   (.seq (.asg 6 false (.b1 .tuple (.lc false (.bin .Add (.var 10) (.cst (.int 1))) [10] (.seq (.var 8)) .nil)))
   (.seq (.asg 3 true (.bin .Add (.var 3) (.lst false (.cons (.var 4) (.cons (.tup (.cons (.var 9) (.cons (.var 8) .nil))) (.cons (.tup (.cons (.var 8) (.cons (.slc (.var 9) .no (.yes (.neg (.cst (.int 1))))) .nil))) (.cons (.tup (.cons (.var 8) (.cons (.rev (.var 9)) .nil))) (.cons (.tup (.cons (.var 6) (.cons (.var 9) .nil))) .nil))))))))
   (.seq (.asg 3 true (.bin .Add (.var 3) (.lst false (.cons (.tup (.cons (.var 8) (.cons (.rng true (.ix (.var 1) (.cst (.int 0)))) .nil))) (.cons (.tup (.cons (.var 8) (.cons (.tup .nil) .nil))) (.cons (.tup (.cons (.var 8) .nil)) (.cons (.bin .Add (.var 4) (.tup (.cons (.tup .nil) .nil))) (.cons (.b1 .list (.var 4)) .nil))))))))
   .skip)))) [8, 9, 6])
  (.seq (.for_ [5] (.rng1 (.cst (.int 10)))
   (.seq (.asg 7 false (.call i_law_spoilt (.io 0 (.val (.ix (.var 2) (.bin .Mod (.var 5) (.b1 .len (.var 2)))) .nil))))
   (.seq (.ifs (.cmp .Eq (.call i_law_draw (.io 0 (.val (.cst (.int 3)) .nil))) (.cst (.int 0)))
    (.seq (.asg 7 false (.call i_law_spoilt (.io 0 (.val (.var 7) .nil))))
    .skip)
    .skip)
   (.seq (.ex (.mth (.var 3) .append (.cons (.var 7) .nil)))
   .skip))) [7])
  (.seq (.ret (.bin .Add (.frz 3) (.lst false (.cons (.call i_law_odd (.io 0 (.val (.cst (.int 0)) .nil))) (.cons (.cst .non) (.cons (.tup .nil) (.cons (.tup (.cons (.tup .nil) (.cons (.tup .nil) .nil))) (.cons (.tup (.cons (.bin .Mult (.tup (.cons (.cst (.int 0)) .nil)) (.ix (.var 1) (.cst (.int 0)))) (.cons (.tup (.cons (.cst (.int 0)) .nil)) .nil))) .nil))))))))
  .skip))))⟩
def f_law_k46 (i_law_deck i_law_free_web i_law_web i_law_sets_by i_law_draw i_law_greedy i_law_exchanged i_coloured_holds i_law_any_set i_law_turned i_law_things i_law_told : Nat) : CF := ⟨"law", 1, ["script", "deck", "turn", "other", "sets", "most", "good", "there", "any_one", "thing", "web", "order", "one", "two"], [], false,
  (.seq (.asg 1 true (.call i_law_deck (.val (.var 0) .nil)))
  (.seq (.for_ [2] (.rng1 (.cst (.int 3)))
   (.seq (.asgT [10, 11] (.call i_law_free_web (.io 1 (.val (.cst (.int 24)) .nil))))
   (.seq (.asg 3 false (.call i_law_web (.io 1 (.val (.cst (.int 24)) .nil))))
   (.seq (.asg 4 false (.call i_law_sets_by (.val (.var 10) (.val (.var 11) .nil))))
   (.seq (.asg 5 false (.lc false (.var 12) [12] (.seq (.var 4)) (.cons (.cmp .Eq (.b1 .len (.var 12)) (.b1 .max (.lc false (.b1 .len (.var 13)) [13] (.seq (.var 4)) .nil))) .nil)))
   (.seq (.asg 6 false (.tup (.cons (.call i_law_exchanged (.io 1 (.val (.call i_law_greedy (.val (.var 10) (.val (.rev (.var 11)) .nil))) .nil))) (.cons (.ix (.var 5) (.call i_law_draw (.io 1 (.val (.b1 .len (.var 5)) .nil)))) .nil))))
   (.seq (.ifs (.cmp .IsNot (.call i_coloured_holds (.val (.var 10) (.val (.var 6) .nil))) (.cst (.bl true)))
    (.seq (.ret (.cst (.bl false)))
    .skip)
    .skip)
   (.seq (.asg 7 false (.tup (.cons (.call i_law_greedy (.val (.var 3) (.val (.b1 .tuple (.call i_law_turned (.io 1 (.val (.ix (.var 3) (.cst (.int 0))) .nil)))) .nil))) (.cons (.call i_law_any_set (.io 1 (.val (.var 3) .nil))) .nil))))
   (.seq (.asg 8 false (.tup (.cons (.call i_law_greedy (.val (.var 10) (.val (.b1 .tuple (.call i_law_turned (.io 1 (.val (.ix (.var 10) (.cst (.int 0))) .nil)))) .nil))) (.cons (.call i_law_any_set (.io 1 (.val (.var 10) .nil))) .nil))))
   (.seq (.for_ [9] (.seq (.call i_law_things (.io 1 (.val (.var 10) (.val (.lst false (.cons (.var 6) (.cons (.var 8) (.cons (.var 7) .nil)))) .nil)))))
    (.seq (.ifs (.bop false (.cons (.not (.call i_law_told (.val (.var 10) (.val (.var 9) .nil)))) (.cons (.not (.call i_law_told (.val (.var 3) (.val (.var 9) .nil)))) (.cons (.not (.call i_law_told (.val (.var 10) (.val (.var 9) .nil)))) .nil))))
     (.seq (.ret (.cst (.bl false)))
     .skip)
     .skip)
    .skip) [])
   .skip))))))))) [10, 11, 3, 4, 5, 6, 7, 8, 9])
  (.seq (.ret (.cst (.bl true)))
  .skip)))⟩
end Mini
set_option linter.all false
set_option maxRecDepth 100000
/-! T46: the defs of law k46 by their places. Printed by libgen.py. -/
namespace Mini
namespace k46
open PySem L2
def pt : List (CF × Nat) := [((f_is_whole), 1), ((f_neighbour_rows), 3), ((f_are_full), 5), ((f_are_places 0), 6), ((f_are_colours 0), 8), ((f_is_full_set 3 2), 9), ((f_coloured_holds 1 4 5), 10), ((f_law_deck), 12), ((f_law_draw), 13), ((f_law_turned 8), 14), ((f_law_shape 8), 15), ((f_law_web_of), 16), ((f_law_web 8 9 10 11), 17), ((f_law_near_k46), 18), ((f_law_are_near), 19), ((f_law_whole), 20), ((f_law_are_places 15), 21), ((f_law_free_web 8 9 11), 22), ((f_law_sets_by 13), 23), ((f_law_is_coloured 16 15 13 14), 24), ((f_law_odd 8), 25), ((f_law_spoilt 8 21 20), 26), ((f_law_greedy 13), 27), ((f_law_exchanged 9), 28), ((f_law_any_set 13 9), 29), ((f_law_told_k46 6 19), 30), ((f_law_things 21 8 20), 31), ((f_law_k46 7 17 12 18 8 22 23 6 24 9 26 25), 32)]
def cs : List (Str × Int) := []
def prog : List CF := pt.map (·.1)
end k46
end Mini
set_option linter.all false
set_option maxRecDepth 100000
namespace Mini
open PySem L2
/-! S46a: full sets, colours, judged. -/
def FullL (w : Web) (l : List Nat) : Prop := l ≠ [] ∧ (∀ x ∈ l, x < w.n) ∧ l.Pairwise (· < ·) ∧ Full w l
def FullOf (w : Web) (d : Mini.D) : Prop := ∃ l : List Nat, d = .tup (natsD l) ∧ FullL w l
theorem FullOf_iff {w : Web} {l : List Nat} : FullOf w (.tup (natsD l)) ↔ FullL w l := by
  constructor
  · rintro ⟨l', e, h⟩
    have := natsD_inj (D.tup.inj e)
    subst this; exact h
  · exact fun h => ⟨l, rfl, h⟩
theorem lt_nodup {l : List Nat} (h : l.Pairwise (· < ·)) : l.Nodup := h.imp fun h e => by omega
theorem sort_rising {l : List Nat} (hn : l.Nodup) : (l.map fun k : Nat => (k : Int)) = sortI (l.map fun k : Nat => (k : Int)) ↔ l.Pairwise (· < ·) := by
  constructor
  · intro h
    have s := sortI_sorted (l := l.map fun k : Nat => (k : Int))
    rw [← h, List.pairwise_map] at s
    exact (s.and hn).imp fun {a b} h => by have := h.1; have := h.2; omega
  · intro h
    refine (sorted_unique sortI_sorted ?_ (pSortI _)).symm
    rw [List.pairwise_map]
    exact h.imp fun h => by omega
theorem len_rowsD {n : Nat} {nb : Nat → List Nat} : b1D .len (rowsD n nb) = some (.int n) := by simp [rowsD, b1D]
def IsFullS (F : List Mini.D → Cr) : Prop := ∀ (w : Web) (d : Mini.D), w.ok → Thing d → (F [rowsD w.n w.nb, d]).S (fun r o => ∃ b, r = .bl b ∧ (b = true ↔ FullOf w d) ∧ o = []) noX
theorem isFull_ok {Φ : Phi} {fp ff : Nat} (hp : ArePlS (Φ fp)) (hf : AreFullS (Φ ff)) : IsFullS (rF Φ (f_is_full_set fp ff)) := by
  intro w d hw hd
  refine S_def rfl ?_
  have hdp : d.pure = true := hd.1
  simp [f_is_full_set, CF.start, SS_ifs, hdp, len_rowsD]
  refine Cr.S_use (hp w.n d hd) ?_
  rintro _ _ ⟨rfl, rfl⟩
  simp
  refine condK_i (fun h => ?_) (fun h => ?_)
  · simp
    rintro ⟨l, rfl, h1, h2, h3, h4⟩
    have := isPl_iff.mpr ⟨l, rfl, h2, lt_nodup h3⟩
    rw [this] at h
    cases h
  · have h' : isPl w.n d = true := by simpa using h
    obtain ⟨l, rfl, hl, hnd⟩ := isPl_iff.mp h'
    have hl2 : l.length ≤ 1000 := by have := hd.2.1; simpa using this
    simp
    refine condK_i (fun h2 => ?_) (fun h2 => ?_)
    · have e0 := natsD_nil.mp h2
      subst e0
      simp
      rw [FullOf_iff]
      exact fun h => h.1 rfl
    · have e0 : l ≠ [] := fun e => by rw [natsD_nil.mpr e] at h2; cases h2
      have e1 : sortedD (.tup (natsD l)) = some (.lst true ((sortI (l.map fun k : Nat => (k : Int))).map D.int)) := by rw [natsD_eq]; exact sortedD_intsT intsOf_map
      have e2 : natsD l = (l.map fun k : Nat => (k : Int)).map D.int := natsD_eq
      have e3 : eqD (.lst true (natsD l)) (.lst true ((sortI (l.map fun k : Nat => (k : Int))).map D.int)) = some (decide (l.Pairwise (· < ·))) := by
        rw [natsD_eq, eqD_lints]
        congr 1
        rw [decide_eq_decide]
        exact sort_rising hnd
      simp [e1, e3]
      refine condK_i (fun h3 => ?_) (fun h3 => ?_)
      · have h3' : l.Pairwise (· < ·) := by simpa using h3
        simp
        refine Cr.S_use (hf w l _ hw hl hl2 (.inl rfl)) ?_
        rintro _ _ ⟨b, rfl, hb, rfl⟩
        simp
        rw [hb, FullOf_iff]
        exact ⟨fun h => ⟨e0, hl, h3', h⟩, fun h => h.2.2.2⟩
      · have h3' : ¬ l.Pairwise (· < ·) := by simpa using h3
        simp
        rw [FullOf_iff]
        exact fun h => h3' h.2.2.1
end Mini
set_option linter.all false
set_option maxRecDepth 100000
namespace Mini
open PySem L2
/-! S46b: colours judged. -/
def ColsL (w : Web) (m : Nat) (c : List Nat) : Prop := c.length = w.n ∧ (∀ x ∈ c, x < m) ∧ ∀ i k, w.adj i k → c.getD i 0 ≠ c.getD k 0
def ColsOf (w : Web) (m : Nat) (d : Mini.D) : Prop := ∃ c : List Nat, d = .tup (natsD c) ∧ ColsL w m c
theorem ColsOf_iff {w : Web} {m : Nat} {l : List Nat} : ColsOf w m (.tup (natsD l)) ↔ ColsL w m l := by
  constructor
  · rintro ⟨l', e, h⟩
    have := natsD_inj (D.tup.inj e)
    subst this; exact h
  · exact fun h => ⟨l, rfl, h⟩
theorem natsD_getD {c : List Nat} {i : Nat} (h : i < c.length) : atI (natsD c) (i : Int) = some (.int (c.getD i 0 : Nat)) := by
  rw [natsD_get h]; simp [h]
theorem map_natsD {l : List Nat} {g : Nat → Nat} : (l.map fun a => Mini.D.int ((g a : Nat) : Int)) = natsD (l.map g) := by simp [natsD]
def AreColsS (F : List Mini.D → Cr) : Prop := ∀ (w : Web) (m : Nat) (d : Mini.D), w.ok → Thing d → (F [rowsD w.n w.nb, .int m, d]).S (fun r o => ∃ b, r = .bl b ∧ (b = true ↔ ColsOf w m d) ∧ o = []) noX
theorem areCols_ok {Φ : Phi} {f : Nat} (hwh : WholeS (Φ f)) : AreColsS (rF Φ (f_are_colours f)) := by
  intro w m d hw ⟨hp, hd⟩
  refine S_def rfl ?_
  cases d with
  | raw xs => exact hd.elim
  | scr ns => exact hd.elim
  | tup xs =>
    obtain ⟨hl, hx⟩ := hd
    have hn : w.n ≤ 100 := hw.le
    simp [f_are_colours, CF.start, SS_ifs, isiD, sizeLine_eq, len_rowsD, Int.natCast_inj]
    refine condK_i (fun h => ?_) (fun h => ?_)
    · simp at h
      simp
      rintro ⟨l, e, h2⟩
      have e2 : xs = natsD l := D.tup.inj e
      apply h
      rw [e2, natsD_length, h2.1]
    · simp at h
      simp [SS_ifs, sizeLine_eq]
      refine ⟨by omega, ?_⟩
      refine lcX_mapi (fun x => .bl (inR m x)) xs (fun x hxm => ?_) ?_
      · have hxp := hx x hxm
        simp [hxp]
        refine Cr.S_use (hwh x hxp) ?_
        rintro _ _ ⟨rfl, rfl⟩
        simp
        refine condK_i (fun h => ?_) (fun h => ?_)
        · cases x with
          | int i =>
            simp [inR]
            refine condK_i (fun h => ?_) (fun h => ?_)
            · simp at h
              simp [h]
            · simp at h
              simp; omega
          | _ => cases h
        · simp [hxp]
          cases x with
          | int i => cases h
          | _ => rfl
      · simp
        refine condK_i (fun h2 => ?_) (fun h2 => ?_)
        · simp at h2
          obtain ⟨x, hxm, hxw⟩ := h2
          simp
          rintro ⟨c, e, h3⟩
          have e2 : xs = natsD c := D.tup.inj e
          rw [e2] at hxm
          obtain ⟨k, hk, rfl⟩ := List.mem_map.mp hxm
          have := h3.2.1 k hk
          simp [inR] at hxw
          omega
        · have h3 : ∀ x ∈ xs, inR m x = true := by simpa using h2
          obtain ⟨ns, rfl⟩ := inR_all h3
          have hall : ∀ i ∈ ns, 0 ≤ i ∧ i < m := fun i hi => by
            have := h3 (.int i) (by simpa using hi)
            simpa [inR] using this
          obtain ⟨c, rfl⟩ := nats_of_ints (ns := ns) fun i hi => (hall i hi).1
          have hcm : ∀ x ∈ c, x < m := fun x hx => by
            have := hall x (List.mem_map.mpr ⟨x, hx, rfl⟩)
            omega
          have hcl : c.length = w.n := by simpa using h
          rw [← natsD_eq]
          simp [rowsD]
          refine forX_enum (fun i => .tup (natsD (w.nb i))) (List.range w.n) (fun k ρ => ρ = [some (.lst false ((List.range w.n).map fun i => .tup (natsD (w.nb i)))), some (.int m), some (.tup (natsD c)), none, none, none, none] ∧ ∀ i, i < k → ∀ j, w.adj i j → c.getD i 0 ≠ c.getD j 0) ⟨rfl, by intros; omega⟩ ?_ ?_
          · rintro k hk ρ ⟨rfl, hI⟩
            have hk' : k < w.n := by simpa using hk
            have e1 : atI (natsD c) (k : Int) = some (.int (c.getD k 0 : Nat)) := natsD_getD (by omega)
            have hnl : (w.nb k).length < 16777216 := by
              have := rowOf_length (cs := w.cells) (i := k)
              have := hw.len
              unfold Web.nb
              omega
            simp [SS_ifs, e1, sizeLine_eq, hnl, -List.getD_eq_getElem?_getD]
            refine lcX_mapN (fun a => .int (c.getD a 0 : Nat)) (w.nb k) (fun a ha => ?_) ?_
            · have hr := hw.rng _ _ (mem_rowOf.mp ha)
              have e2 : atI (natsD c) (a : Int) = some (.int (c.getD a 0 : Nat)) := natsD_getD (by omega)
              simp [e2, -List.getD_eq_getElem?_getD]
            · rw [map_natsD]
              simp [-List.getD_eq_getElem?_getD]
              refine condK_i (fun h4 => ?_) (fun h4 => ?_)
              · obtain ⟨a, ha, hc⟩ := of_decide_eq_true h4
                simp
                rw [ColsOf_iff]
                exact fun h5 => h5.2.2 _ _ (mem_rowOf.mp ha) hc.symm
              · have h4' := of_decide_eq_false h4
                simp [-List.getD_eq_getElem?_getD]
                intro i hi j hij
                by_cases hik : i < k
                · exact hI i hik j hij
                · have : i = k := by omega
                  subst this
                  exact fun e => h4' ⟨j, mem_rowOf.mpr hij, e.symm⟩
          · rintro ρ ⟨rfl, hI⟩
            simp
            rw [ColsOf_iff]
            exact ⟨hcl, hcm, fun i j hij => hI i (by simpa using (hw.rng _ _ hij).1) j hij⟩
  | _ =>
    simp [f_are_colours, CF.start, hp, SS_ifs, isiD]
    rintro ⟨l, e, _⟩
    cases e
end Mini
set_option linter.all false
set_option maxRecDepth 100000
namespace Mini
open PySem L2
/-! S46c: colours and a full set judged. -/
def HoldsL (w : Web) (c l : List Nat) : Prop := FullL w l ∧ ColsL w l.length c
def HoldsOf (w : Web) (d : Mini.D) : Prop := ∃ c l : List Nat, d = .tup [.tup (natsD c), .tup (natsD l)] ∧ HoldsL w c l
theorem HoldsOf_iff {w : Web} {c l : List Nat} : HoldsOf w (.tup [.tup (natsD c), .tup (natsD l)]) ↔ HoldsL w c l := by
  constructor
  · rintro ⟨c', l', e, h⟩
    have e1 := D.tup.inj e
    simp only [List.cons.injEq, D.tup.injEq, and_true] at e1
    have := natsD_inj e1.1
    have := natsD_inj e1.2
    subst_vars; exact h
  · exact fun h => ⟨c, l, rfl, h⟩
def Thing2 (d : Mini.D) : Prop := d.pure = true ∧ (match d with
  | .raw _ => False
  | .scr _ => False
  | .tup xs => xs.length ≤ 1000 ∧ ∀ x ∈ xs, Thing x
  | _ => True)
def HoldsS (F : List Mini.D → Cr) : Prop := ∀ (w : Web) (d : Mini.D), w.ok → Thing2 d → (F [w.D, d]).S (fun r o => ∃ b, r = .bl b ∧ (b = true ↔ HoldsOf w d) ∧ o = []) noX
theorem holds_ok {Φ : Phi} {f1 f2 f3 : Nat} (h1 : NbrsS (Φ f1)) (h2 : AreColsS (Φ f2)) (h3 : IsFullS (Φ f3)) : HoldsS (rF Φ (f_coloured_holds f1 f2 f3)) := by
  intro w d hw ⟨hp, hd⟩
  refine S_def rfl ?_
  have hWp : w.D.pure = true := rfl
  cases d with
  | raw xs => exact hd.elim
  | scr ns => exact hd.elim
  | tup xs =>
    obtain ⟨hl, hx⟩ := hd
    simp [f_coloured_holds, CF.start, SS_ifs, isiD, hWp]
    refine condK_i (fun h => ?_) (fun h => ?_)
    · simp at h
      simp
      rintro ⟨c, l, e, h2⟩
      have e2 := D.tup.inj e
      apply h
      rw [e2]; rfl
    · simp at h
      obtain ⟨x, y, rfl⟩ : ∃ x y, xs = [x, y] := by
        match xs, h with
        | [x, y], _ => exact ⟨x, y, rfl⟩
        | [], h => simp at h
        | [_], h => simp at h
        | _ :: _ :: _ :: _, h => simp at h; omega
      have tx := hx x (by simp)
      have ty := hx y (by simp)
      simp
      refine Cr.S_use (h1 w hw) ?_
      rintro _ _ ⟨rfl, rfl⟩
      have hrf : (rowsD w.n w.nb).frz = rowsD w.n w.nb := frz_pure pure_rowsD
      simp [tx.1, ty.1, hrf]
      refine Cr.S_use (h3 w y hw ty) ?_
      rintro _ _ ⟨b, rfl, hb, rfl⟩
      simp
      refine condK_i (fun hb1 => ?_) (fun hb1 => ?_)
      · obtain ⟨l, rfl, hl2⟩ := hb.mp hb1
        simp [tx.1, hrf]
        refine Cr.S_use (h2 w l.length x hw tx) ?_
        rintro _ _ ⟨b2, rfl, hb2, rfl⟩
        simp
        rw [hb2]
        constructor
        · rintro ⟨c, rfl, hc⟩
          exact ⟨c, l, rfl, hl2, hc⟩
        · rintro ⟨c, l', e, h5, h6⟩
          have e1 := D.tup.inj e
          simp only [List.cons.injEq, D.tup.injEq, and_true] at e1
          have := natsD_inj e1.2
          subst this
          exact ⟨c, e1.1, h6⟩
      · simp
        rintro ⟨c, l, e, h5, h6⟩
        have e1 := D.tup.inj e
        simp only [List.cons.injEq, and_true] at e1
        have := hb.mpr ⟨l, e1.2, h5⟩
        rw [this] at hb1; cases hb1
  | _ =>
    simp [f_coloured_holds, CF.start, hp, SS_ifs, isiD, hWp]
    rintro ⟨c, l, e, _⟩
    cases e
end Mini
set_option linter.all false
set_option maxRecDepth 100000
namespace Mini
open PySem L2
/-! S46d: rows of neighbours, owned; the law's own judging. -/
def nearoD (n : Nat) (nb : Nat → List Nat) : Mini.D := .lst true ((List.range n).map fun i => nkD true (nb i))
@[simp] theorem frz_nearoD {n : Nat} {nb : Nat → List Nat} : (nearoD n nb).frz = neardD n nb := by
  simp [nearoD, neardD, frzs_map, Function.comp_def]
def NearOS (F : List Mini.D → Cr) : Prop := ∀ w : Web, w.ok → (F [w.D]).S (fun r o => r = nearoD w.n w.nb ∧ o = []) noX
theorem nearO_ok {Φ : Phi} : NearOS (rF Φ f_law_near_k46) := by
  intro w hw
  have w1 := hw.pos
  have w2 := hw.le
  have w3 := hw.rng
  have w5 := hw.ris
  have w6 := hw.len
  refine S_def rfl ?_
  have hn : w.n < 16777216 := by omega
  simp [f_law_near_k46, CF.start, Web.D, sizeLine_eq, hn]
  refine ⟨by omega, ?_⟩
  rw [rangeD_map]
  refine lcX_map D.int (fun _ => nkD true []) _ (fun a _ => by simp; rfl) ?_
  simp
  refine forX_done cellD w.cells (fun done ρ => ρ = [some w.D, some (.lst true ((List.range w.n).map fun i => nkD true (rowOf done i))), none, none]) (by simp [rowOf, Web.D]) ?_ ?_
  · rintro done ⟨i, k⟩ rest ρ e rfl
    have hm : (i, k) ∈ w.cells := by rw [e]; simp
    obtain ⟨r1, r2, r3⟩ := w3 i k hm
    have hl : done.length ≤ w.cells.length := by rw [e]; simp
    have hl2 : (rowOf done i).length < sizeLine := by have := rowOf_length (cs := done) (i := i); rw [sizeLine_eq]; omega
    have hk : k ∉ rowOf done i := by
      rw [mem_rowOf]
      intro hd
      rw [e, List.pairwise_append] at w5
      have := w5.2.2 _ hd _ (List.mem_cons_self)
      unfold ltP at this
      omega
    have fs := fSet_nk hk hl2
    simp [cellD, atI_nat, ixN_nat, r1, fs]
    rw [map_range_set]
    refine map_range_congr fun j hj => ?_
    rw [rowOf_snoc]
    by_cases hji : j = i
    · subst hji; simp
    · simp [hji]
  · rintro ρ rfl
    simp [Web.D, frzs_map, Function.comp_def, hn, sizeLine_eq]
    rfl
end Mini
set_option linter.all false
set_option maxRecDepth 100000
namespace Mini
open PySem L2
/-! S46e: the law's own judging of colours. -/
def LHoldsS (F : List Mini.D → Cr) : Prop := ∀ (w : Web) (d : Mini.D), w.ok → Thing2 d → (F [w.D, d]).S (fun r o => ∃ b, r = .bl b ∧ (b = true ↔ HoldsOf w d) ∧ o = []) noX
theorem lholds_ok {Φ : Phi} {f1 f2 f3 f4 : Nat} (h1 : ArePlS (Φ f1)) (hwh : WholeS (Φ f2)) (hne : NearOS (Φ f3)) (h4 : AreNearS (Φ f4)) : LHoldsS (rF Φ (f_law_is_coloured f1 f2 f3 f4)) := by
  intro w d hw ⟨hp, hd⟩
  refine S_def rfl ?_
  have hWp : w.D.pure = true := rfl
  cases d with
  | raw xs => exact hd.elim
  | scr ns => exact hd.elim
  | tup xs =>
    obtain ⟨hl, hx⟩ := hd
    simp [f_law_is_coloured, CF.start, SS_ifs, isiD, hWp]
    refine condK_i (fun h => ?_) (fun h => ?_)
    · simp at h
      simp
      rintro ⟨c, l, e, h2⟩
      have e2 := D.tup.inj e
      apply h
      rw [e2]; rfl
    · simp at h
      obtain ⟨x, y, rfl⟩ : ∃ x y, xs = [x, y] := by
        match xs, h with
        | [x, y], _ => exact ⟨x, y, rfl⟩
        | [], h => simp at h
        | [_], h => simp at h
        | _ :: _ :: _ :: _, h => simp at h; omega
      have tx := hx x (by simp)
      have ty := hx y (by simp)
      simp [tx.1, ty.1]
      refine condK_i (fun hc => ?_) (fun hc => ?_)
      · simp
        rintro ⟨c, l, e, _⟩
        have e1 := D.tup.inj e
        simp only [List.cons.injEq, and_true] at e1
        rw [e1.1] at hc
        cases hc
      · obtain ⟨cs, rfl⟩ : ∃ cs, x = .tup cs := by
          cases x with
          | tup cs => exact ⟨cs, rfl⟩
          | raw cs => exact tx.2.elim
          | _ => cases hc
        have no : ∀ {P : Prop}, (∀ c l, cs = natsD c → y = .tup (natsD l) → HoldsL w c l → P) → HoldsOf w (.tup [.tup cs, y]) → P := by
          rintro P hP ⟨c, l, e, hh⟩
          have e1 := D.tup.inj e
          simp only [List.cons.injEq, D.tup.injEq, and_true] at e1
          exact hP c l e1.1 e1.2 hh
        simp [Web.D, SS_ifs, ty.1]
        refine Cr.S_use (h1 w.n y ty) ?_
        rintro _ _ ⟨rfl, rfl⟩
        simp [ty.1]
        refine condK_i (fun h5 => ?_) (fun h5 => ?_)
        · simp
          refine no ?_
          rintro c l rfl rfl hh
          rw [isPl_iff.mpr ⟨l, rfl, hh.1.2.1, lt_nodup hh.1.2.2.1⟩] at h5
          cases h5
        · have h5' : isPl w.n y = true := by simpa using h5
          obtain ⟨l, rfl, hlw, hnd⟩ := isPl_iff.mp h5'
          have hl2 : l.length ≤ 1000 := by have := ty.2.1; simpa using this
          simp
          refine condK_i (fun h2 => ?_) (fun h2 => ?_)
          · have e0 := natsD_nil.mp h2
            subst e0
            simp
            refine no ?_
            rintro c l rfl e hh
            have := natsD_inj (D.tup.inj e)
            exact hh.1.1 this.symm
          · have e0 : l ≠ [] := fun e => by rw [natsD_nil.mpr e] at h2; cases h2
            have e1 : sortedD (.tup (natsD l)) = some (.lst true ((sortI (l.map fun k : Nat => (k : Int))).map D.int)) := by rw [natsD_eq]; exact sortedD_intsT intsOf_map
            have e3 : eqD (.lst true (natsD l)) (.lst true ((sortI (l.map fun k : Nat => (k : Int))).map D.int)) = some (decide (l.Pairwise (· < ·))) := by
              rw [natsD_eq, eqD_lints]
              congr 1
              rw [decide_eq_decide]
              exact sort_rising hnd
            simp [e1, e3]
            refine condK_i (fun h3 => ?_) (fun h3 => ?_)
            · have h3' : ¬ l.Pairwise (· < ·) := by simpa using h3
              simp
              refine no ?_
              rintro c l' rfl e hh
              have := natsD_inj (D.tup.inj e)
              subst this
              exact h3' hh.1.2.2.1
            · have h3' : l.Pairwise (· < ·) := by simpa using h3
              simp [SS_ifs, Int.natCast_inj]
              refine condK_i (fun hcl => ?_) (fun hcl => ?_)
              · have hcl' : ¬ cs.length = w.n := by simpa using hcl
                simp
                refine no ?_
                rintro c l' rfl e hh
                exact hcl' (by rw [natsD_length, hh.2.1])
              · have hcl' : cs.length = w.n := by simpa using hcl
                have hn : w.n ≤ 100 := hw.le
                have hcp : D.pures cs = true := pures_iff.mpr tx.2.2
                simp [sizeLine_eq, hcl', hcp]
                refine ⟨by omega, ?_⟩
                refine lcX_purei (fun x => !inR l.length x) (fun x => x) cs (fun x hxm => ?_) ?_
                · have hxp := tx.2.2 x hxm
                  simp [hxp]
                  refine Cr.S_use (hwh x hxp) ?_
                  rintro _ _ ⟨rfl, rfl⟩
                  simp
                  refine condK_i (fun h => ?_) (fun h => ?_)
                  · have hf : wholeD x = false := by simpa using h
                    have hf2 : inR l.length x = false := by cases x <;> first | rfl | cases hf
                    simp [hf2, hxp]
                  · have hf : wholeD x = true := by simpa using h
                    obtain ⟨i, rfl⟩ : ∃ i, x = .int i := by cases x <;> first | exact ⟨_, rfl⟩ | cases hf
                    simp [inR]
                    refine condK_i (fun h => ?_) (fun h => ?_)
                    · simp at h
                      by_cases hil : i < l.length
                      · simp [h, hil]
                      · simp [h, hil]
                    · have h' : ¬ 0 ≤ i := by simpa using h
                      simp [h']
                · simp
                  refine condK_i (fun h => ?_) (fun h => ?_)
                  · simp at h
                    obtain ⟨x, hxm, hxw⟩ := h
                    simp
                    refine no ?_
                    rintro c l' rfl e hh
                    have := natsD_inj (D.tup.inj e)
                    subst this
                    obtain ⟨k, hk, rfl⟩ := List.mem_map.mp hxm
                    have := hh.2.2.1 k hk
                    simp [inR] at hxw
                    omega
                  · have hall : ∀ x ∈ cs, inR l.length x = true := by simpa using h
                    obtain ⟨ns, rfl⟩ := inR_all hall
                    have hall2 : ∀ i ∈ ns, 0 ≤ i ∧ i < l.length := fun i hi => by
                      have := hall (.int i) (by simpa using hi)
                      simpa [inR] using this
                    obtain ⟨c, rfl⟩ := nats_of_ints (ns := ns) fun i hi => (hall2 i hi).1
                    have hcm : ∀ x ∈ c, x < l.length := fun x hx => by
                      have := hall2 x (List.mem_map.mpr ⟨x, hx, rfl⟩)
                      omega
                    have hcl2 : c.length = w.n := by simpa using hcl'
                    rw [← natsD_eq]
                    simp [SS_ifs]
                    refine Cr.S_use (hne w hw) ?_
                    rintro _ _ ⟨rfl, rfl⟩
                    simp
                    refine Cr.S_use (h4 w l _ hw hlw hl2 (.inl rfl)) ?_
                    rintro _ _ ⟨b, rfl, hb, rfl⟩
                    simp
                    refine condK_i (fun hb1 => ?_) (fun hb1 => ?_)
                    · simp
                      rw [HoldsOf_iff]
                      intro hh
                      have := hb.mpr ((fullU_iff hw hnd).mpr hh.1.2.2.2)
                      rw [this] at hb1; cases hb1
                    · have hb2 : Full w l := (fullU_iff hw hnd).mp (hb.mp (by simpa using hb1))
                      have hcz : w.cells.length < 16777216 := by have := hw.len; omega
                      simp [sizeLine_eq, hcz]
                      refine lcX_pure cellD (fun p => decide (c.getD p.1 0 = c.getD p.2 0)) (fun _ => .int 1) w.cells (fun p hp => ?_) ?_
                      · obtain ⟨i, k⟩ := p
                        have hr := hw.rng _ _ hp
                        have g1 : atI (natsD c) (i : Int) = some (.int (c.getD i 0 : Nat)) := natsD_getD (by omega)
                        have g2 : atI (natsD c) (k : Int) = some (.int (c.getD k 0 : Nat)) := natsD_getD (by omega)
                        simp [cellD, g1, g2, Int.natCast_inj, -List.getD_eq_getElem?_getD]
                        refine condK_i (fun h => ?_) (fun h => ?_) <;> simp
                      · simp [-List.getD_eq_getElem?_getD]
                        rw [HoldsOf_iff]
                        exact ⟨fun hh => ⟨⟨e0, hlw, h3', hb2⟩, hcl2, hcm, hh⟩, fun hh => hh.2.2.2⟩
  | _ =>
    simp [f_law_is_coloured, CF.start, hp, SS_ifs, isiD, hWp]
    rintro ⟨c, l, e, _⟩
    cases e
end Mini
set_option linter.all false
set_option maxRecDepth 100000
namespace Mini
open PySem L2
/-! S46f: colours exchanged. -/
def ExchS (F : List Mini.D → Cr) : Prop := ∀ (d : Dk) (c : List Nat), d.ok → c ≠ [] → c.length ≤ 1000 → (∀ x ∈ c, x < 100) → (F [d.D, .tup (natsD c)]).S (fun r o => ∃ (g : Nat → Nat) (d' : Dk), r = .tup (natsD (c.map g)) ∧ (∀ x ∈ c, ∀ y ∈ c, g x = g y → x = y) ∧ (∀ M, (∀ x ∈ c, x < M) → ∀ x ∈ c, g x < M) ∧ d'.ok ∧ o = [d'.D]) noX
theorem max_nats {c : List Nat} (h : c ≠ []) : ∃ m, m ∈ c ∧ (∀ x ∈ c, x ≤ m) ∧ (c.map fun k : Nat => (k : Int)).max? = some (m : Int) := by
  cases e : (c.map fun k : Nat => (k : Int)).max? with
  | none => simp at e; exact absurd e h
  | some M =>
    obtain ⟨h1, h2⟩ := List.max?_eq_some_iff.mp e
    obtain ⟨m, hm, rfl⟩ := List.mem_map.mp h1
    refine ⟨m, hm, fun x hx => ?_, rfl⟩
    have := h2 _ (List.mem_map.mpr ⟨x, hx, rfl⟩)
    omega
theorem exch_ok {Φ : Phi} {f : Nat} (ht : TurnedS (Φ f)) : ExchS (rF Φ (f_law_exchanged f)) := by
  intro d c hd hc hl hx
  refine S_def rfl ?_
  obtain ⟨m, hm, hm2, e⟩ := max_nats hc
  have e1 : b1D .max (.tup (natsD c)) = some (.int (m : Int)) := by
    rw [natsD_eq]; simp [b1D, intsOf_map, e, -List.map_map]
  have hm3 := hx m hm
  obtain ⟨z, ez, ez'⟩ : ∃ z : Nat, ((m : Int) + 1) = z ∧ z = m + 1 := ⟨m + 1, by omega, rfl⟩
  simp [f_law_exchanged, CF.start, e1, ez]
  refine Cr.S_use (ht d z hd (by omega)) ?_
  rintro _ _ ⟨p, d, rfl, hp, hd, rfl⟩
  have hpl : p.length = z := by rw [hp.length_eq, List.length_range]
  have hpn : p.Nodup := hp.nodup_iff.mpr List.nodup_range
  have z1 : c.length < 16777216 := by omega
  have ep : (p.map fun i : Nat => Mini.D.int i) = natsD p := rfl
  rw [ep]
  simp [sizeLine_eq, z1]
  refine lcX_mapN (fun a => .int (p.getD a 0 : Nat)) c (fun a ha => ?_) ?_
  · have := hm2 a ha
    have g1 : atI (natsD p) (a : Int) = some (.int (p.getD a 0 : Nat)) := natsD_getD (by omega)
    simp [g1, -List.getD_eq_getElem?_getD]
  · rw [map_natsD]
    simp [-List.getD_eq_getElem?_getD]
    have lt : ∀ x ∈ c, x < p.length := fun x hx => by have := hm2 x hx; omega
    refine ⟨fun a => p.getD a 0, rfl, fun x hx y hy he => ?_, fun M hM x hx => ?_, d, hd, rfl⟩
    · have h1 := lt x hx
      have h2 := lt y hy
      simp only [List.getD_eq_getElem?_getD, List.getElem?_eq_getElem h1, List.getElem?_eq_getElem h2, Option.getD_some] at he
      exact (List.getElem_inj hpn).mp he
    · have h1 := lt x hx
      simp only [List.getD_eq_getElem?_getD, List.getElem?_eq_getElem h1, Option.getD_some]
      have h2 : p[x] ∈ List.range z := hp.mem_iff.mp (List.getElem_mem h1)
      have h3 := hM m hm
      have h4 := List.mem_range.mp h2
      omega
end Mini
set_option linter.all false
set_option maxRecDepth 100000
namespace Mini
open PySem L2
/-! S46g: any full set, in a drawn order. -/
def AnyS (F : List Mini.D → Cr) : Prop := ∀ (d : Dk) (w : Web), d.ok → w.ok → w.n ≤ 60 → (F [d.D, w.D]).S (fun r o => ∃ (l : List Nat) (d' : Dk), r = .tup (natsD l) ∧ (∀ x ∈ l, x < w.n) ∧ l.length ≤ w.n ∧ d'.ok ∧ o = [d'.D]) noX
theorem any_ok {Φ : Phi} {f1 f2 : Nat} (hn : NearOS (Φ f1)) (ht : TurnedS (Φ f2)) : AnyS (rF Φ (f_law_any_set f1 f2)) := by
  intro d w hd hw hwn
  refine S_def rfl ?_
  have hWp : w.D.pure = true := rfl
  have hWf : w.D.frz = w.D := frz_pure hWp
  simp [f_law_any_set, CF.start, hWp, hWf]
  refine Cr.S_use (hn w hw) ?_
  rintro _ _ ⟨rfl, rfl⟩
  simp [Web.D]
  refine Cr.S_use (ht d w.n hd (by omega)) ?_
  rintro _ _ ⟨p, d, rfl, hp, hd, rfl⟩
  have hpl : p.length = w.n := by rw [hp.length_eq, List.length_range]
  have ep : (p.map fun i : Nat => Mini.D.int i) = natsD p := rfl
  rw [ep]
  simp
  refine forX_ixN p (fun k ρ => ∃ l : List Nat, (∀ x ∈ l, x < w.n) ∧ l.length ≤ k ∧ ρ = [some d.D, some w.D, some (neardD w.n w.nb), some (.lst true (natsD l)), none, none]) ⟨[], by simp, by simp, rfl⟩ ?_ ?_
  · rintro k hk ρ ⟨l, hl1, hl2, rfl⟩
    have hpk : p[k] < w.n := by
      have := hp.mem_iff.mp (List.getElem_mem hk)
      simpa using this
    have g2 := neardD_get (nb := w.nb) hpk
    have z1 : l.length < 16777216 := by omega
    simp [SS_ifs, g2, sizeLine_eq, z1]
    refine lcX_filtV (fun x => decide (x ∉ w.nb p[k])) l rfl (fun x hx => ?_) ?_
    · simp [g2]
    · generalize l.filter (fun x => decide (x ∉ w.nb p[k])) = fl
      simp
      refine condK_i (fun h => ?_) (fun h => ?_)
      · simp [sizeLine_eq, z1, natsD_snoc]
        refine ⟨l ++ [p[k]], fun x hx => ?_, by simp; omega, rfl⟩
        rcases List.mem_append.mp hx with h | h
        · exact hl1 x h
        · rw [List.mem_singleton.mp h]; exact hpk
      · simp
        exact ⟨l, hl1, by omega, rfl⟩
  · rintro ρ ⟨l, hl1, hl2, rfl⟩
    have e1 : sortedD (.lst true (natsD l)) = some (.lst true ((sortI (l.map fun k : Nat => (k : Int))).map D.int)) := by rw [natsD_eq]; simp [sortedD, sortedD.sortedL, intsOf_map, -List.map_map]
    obtain ⟨l2, e2⟩ := nats_of_ints (ns := sortI (l.map fun k : Nat => (k : Int))) fun i hi => by
      have := (pSortI _).mem_iff.mp hi
      obtain ⟨k, _, rfl⟩ := List.mem_map.mp this
      omega
    have hpm : l2.Perm l := perm_cast.mp (by rw [← e2]; exact pSortI _)
    rw [e2, ← natsD_eq] at e1
    simp [e1]
    exact ⟨l2, rfl, fun x hx => hl1 x (hpm.mem_iff.mp hx), by rw [hpm.length_eq]; omega, d, hd, rfl⟩
end Mini
set_option linter.all false
set_option maxRecDepth 100000
namespace Mini
open PySem L2
/-! S46h: the full sets by an order. -/
/-- what stands behind a place in an order, with it -/
def behind (w : Web) (o : List Nat) (k : Nat) : List Nat := o.getD k 0 :: (o.drop (k + 1)).filter fun x => decide (x ∈ w.nb (o.getD k 0))
def SetsS (F : List Mini.D → Cr) : Prop := ∀ (w : Web) (o : List Nat), w.ok → o.Perm (List.range w.n) → (F [w.D, .tup (natsD o)]).S (fun r os => ∃ ls : List (List Nat), r = .tup (ls.map fun l => .tup (natsD l)) ∧ ls.length ≤ o.length ∧ (∀ l ∈ ls, ∃ k, k < o.length ∧ l.Perm (behind w o k) ∧ l.Pairwise (· ≤ ·)) ∧ (∀ k, k < o.length → (∀ j, j < o.length → (behind w o j).length ≤ (behind w o k).length) → ∃ l ∈ ls, l.Perm (behind w o k)) ∧ os = []) noX
def keepB (ls : List (List Nat)) (x : List Nat) : Bool := decide (∀ m ∈ ls, ¬ (x.length < m.length ∧ ∀ a ∈ x, a ∈ m))
def heldB (x m : List Nat) : Bool := decide (x.length < m.length ∧ ∀ a ∈ x, a ∈ m)
theorem keepB_eq {ls : List (List Nat)} {x : List Nat} : (ls.filter (heldB x)).isEmpty = keepB ls x := by
  rw [Bool.eq_iff_iff, List.isEmpty_iff, List.filter_eq_nil_iff]
  simp [keepB, heldB]
def rowZ (l : List Nat) : List Int := l.map fun k : Nat => (k : Int)
theorem rowsOf_nats : ∀ ks : List (List Nat), rowsOf (ks.map fun l => Mini.D.tup (natsD l)) = some (ks.map rowZ)
  | [] => rfl
  | l :: ks => by
    simp only [List.map_cons, rowsOf]
    rw [natsD_eq, intsOf_map, Option.bind_some, rowsOf_nats ks]; rfl
theorem rows_back : ∀ {rs : List (List Int)} {ks : List (List Nat)}, (∀ r ∈ rs, ∃ l ∈ ks, r = rowZ l) → ∃ ls : List (List Nat), rs = ls.map rowZ
  | [], ks, _ => ⟨[], rfl⟩
  | r :: rs, ks, h => by
    obtain ⟨l, _, rfl⟩ := h r (by simp)
    obtain ⟨ls, rfl⟩ := rows_back (rs := rs) (ks := ks) fun r hr => h r (by simp [hr])
    exact ⟨l :: ls, rfl⟩
theorem rowZ_inj {a b : List Nat} (h : rowZ a = rowZ b) : a = b := List.map_inj_right (fun a b e => by omega) |>.mp h
theorem sortedD_nrows {m : Bool} {ks : List (List Nat)} (h : ∀ l ∈ ks, l ≠ []) : ∃ ls : List (List Nat), ls.Perm ks ∧ ls.map rowZ = sortR (ks.map rowZ) ∧ sortedD (.lst m (ks.map fun l => .tup (natsD l))) = some (.lst true (ls.map fun l => .tup (natsD l))) := by
  obtain ⟨ls, e⟩ := rows_back (rs := sortR (ks.map rowZ)) (ks := ks) fun r hr => by
    obtain ⟨l, hl, rfl⟩ := List.mem_map.mp ((pSortR _).mem_iff.mp hr)
    exact ⟨l, hl, rfl⟩
  have hp : ls.Perm ks := by
    have h1 : (ls.map rowZ).Perm (ks.map rowZ) := by rw [← e]; exact pSortR _
    have h2 := h1.map fun r : List Int => r.map Int.toNat
    have h3 : ∀ l : List Nat, (rowZ l).map Int.toNat = l := fun l => by simp [rowZ, Function.comp_def]
    simpa [List.map_map, Function.comp_def, h3] using h2
  refine ⟨ls, hp, e.symm, ?_⟩
  have hd : sortedD (.lst m (ks.map fun l => Mini.D.tup (natsD l))) = sortedD.sortedL (ks.map fun l => Mini.D.tup (natsD l)) := by cases m <;> rfl
  rw [hd, sortedD.sortedL]
  cases ks with
  | nil =>
    have := List.perm_nil.mp hp
    subst this; rfl
  | cons k ks =>
    have h0 : intsOf ((k :: ks).map fun l => Mini.D.tup (natsD l)) = none := rfl
    rw [h0, rowsOf_nats]
    have hne : ((k :: ks).map rowZ).all (fun r => !r.isEmpty) = true := by
      rw [List.all_eq_true]
      intro r hr
      obtain ⟨l, hl, rfl⟩ := List.mem_map.mp hr
      have := h l hl
      cases l <;> simp_all [rowZ]
    simp only [hne, if_true, e]
    congr 2
    simp [rowD, natsD_eq, rowZ]
theorem sets_ok {Φ : Phi} {f1 : Nat} (hn : NearOS (Φ f1)) : SetsS (rF Φ (f_law_sets_by f1)) := by
  intro w o hw ho
  refine S_def rfl ?_
  have hWp : w.D.pure = true := rfl
  have hWf : w.D.frz = w.D := frz_pure hWp
  have hol : o.length = w.n := by rw [ho.length_eq, List.length_range]
  have how : ∀ x ∈ o, x < w.n := fun x hx => by simpa using ho.mem_iff.mp hx
  have hn1 := hw.le
  simp [f_law_sets_by, CF.start, hWp, hWf]
  refine Cr.S_use (hn w hw) ?_
  rintro _ _ ⟨rfl, rfl⟩
  simp
  refine forX_enumN o (fun k ρ => ∃ ls : List (List Nat), ls.length = k ∧ (∀ j (h : j < ls.length), ls[j].Perm (behind w o j) ∧ ls[j].Pairwise (· ≤ ·)) ∧ ρ = [some w.D, some (.tup (natsD o)), some (neardD w.n w.nb), some (.lst true (ls.map fun l => .lst true (natsD l))), none, none, none, none, none]) ⟨[], rfl, by simp, rfl⟩ ?_ ?_
  · rintro k hk ρ ⟨ls, hlk, hls, rfl⟩
    have hok : o[k] < w.n := how _ (List.getElem_mem hk)
    have g2 := neardD_get (nb := w.nb) hok
    have z1 : (o.drop (k + 1)).length < 16777216 := by simp; omega
    have ec : slcD (.tup (natsD o)) (some ((k : Int) + 1)) none = some (.tup (natsD (o.drop (k + 1)))) := by rw [slc_tup, cutN]
    have z2 : o.length - (k + 1) < 16777216 := by omega
    simp [g2, sizeLine_eq, cutN]
    refine ⟨by omega, ?_⟩
    refine lcX_filtV (fun x => decide (x ∈ w.nb o[k])) (o.drop (k + 1)) rfl (fun x hx => ?_) ?_
    · simp [g2]
    · obtain ⟨l2, e2⟩ := nats_of_ints (ns := sortI ((behind w o k).map fun k : Nat => (k : Int))) fun i hi => by
        have := (pSortI _).mem_iff.mp hi
        obtain ⟨k, _, rfl⟩ := List.mem_map.mp this
        omega
      have hpm : l2.Perm (behind w o k) := perm_cast.mp (by rw [← e2]; exact pSortI _)
      have hri : l2.Pairwise (· ≤ ·) := by
        have s := sortI_sorted (l := (behind w o k).map fun k : Nat => (k : Int))
        rw [e2, List.pairwise_map] at s
        exact s.imp fun h => by omega
      have eb : Mini.D.int (o[k] : Nat) :: natsD ((o.drop (k + 1)).filter fun x => decide (x ∈ w.nb o[k])) = natsD (behind w o k) := by
        simp [behind, natsD, hk]
      have e1 : sortedD (.lst true (natsD (behind w o k))) = some (.lst true (natsD l2)) := by
        rw [natsD_eq]; simp [sortedD, sortedD.sortedL, intsOf_map, e2, natsD_eq, -List.map_map]
      have hfl : ((o.drop (k + 1)).filter fun x => decide (x ∈ w.nb o[k])).length < 1000 := by
        have := List.length_filter_le (fun x => decide (x ∈ w.nb o[k])) (o.drop (k + 1))
        rw [List.length_drop] at this
        omega
      have z3 : ls.length < 16777216 := by omega
      have z4 : 1 + ((o.drop (k + 1)).filter fun x => decide (x ∈ w.nb o[k])).length ≤ 16777216 := by omega
      generalize hfe : (o.drop (k + 1)).filter (fun x => decide (x ∈ w.nb o[k])) = fl at eb z4
      simp [sizeLine_eq, z4, eb, e1, z3]
      refine ⟨ls ++ [l2], by simp [hlk], fun j h => ?_, by simp⟩
      by_cases hj : j < ls.length
      · rw [List.getElem_append_left hj]; exact hls j hj
      · have hj2 : j = k := by simp at h; omega
        subst hj2
        rw [List.getElem_append_right (by omega)]
        simp [hlk]
        exact ⟨hpm, hri⟩
  · rintro ρ ⟨ls, hlk, hls, rfl⟩
    have efr : D.frzs (ls.map fun l => Mini.D.lst true (natsD l)) = ls.map fun l => Mini.D.lst false (natsD l) := by simp [frzs_map, Function.comp_def]
    have z1 : ls.length < 16777216 := by omega
    simp [efr]
    refine forX_done (fun l => Mini.D.lst false (natsD l)) ls (fun done ρ => ρ = [some w.D, some (.tup (natsD o)), some (neardD w.n w.nb), some (.lst false (ls.map fun l => .lst false (natsD l))), some (.lst true ((done.filter (keepB ls)).map fun l => .tup (natsD l))), none, none, none, none]) (by simp) ?_ ?_
    · rintro done x rest ρ e rfl
      simp [SS_ifs, sizeLine_eq, z1]
      refine lcX_pure (fun l => Mini.D.lst false (natsD l)) (heldB x) (fun _ => .int 1) ls (fun m hm => ?_) ?_
      · have hxm : x ∈ ls := by rw [e]; simp
        have hxz : x.length < 16777216 := by
          obtain ⟨j, hj, ej⟩ := List.getElem_of_mem hxm
          have h1 := (hls j hj).1.length_eq
          rw [ej] at h1
          have h2 := List.length_filter_le (fun x => decide (x ∈ w.nb (o.getD j 0))) (o.drop (j + 1))
          rw [List.length_drop] at h2
          simp only [behind, List.length_cons] at h1
          omega
        simp [b1D]
        refine condK_i (fun h => ?_) (fun h => ?_)
        · have h' : x.length < m.length := by simpa using h
          simp [sizeLine_eq, hxz]
          refine lcX_filtV (fun a => decide (a ∉ m)) x rfl (fun a ha => ?_) ?_
          · simp
          · have eh : (natsD (x.filter fun a => decide (a ∉ m))).isEmpty = heldB x m := by
              rw [Bool.eq_iff_iff, natsD_nil, List.filter_eq_nil_iff]
              simp [heldB, h']
            generalize x.filter (fun a => decide (a ∉ m)) = fl at eh
            simp [eh]
            refine condK_i (fun h => ?_) (fun h => ?_) <;> simp
        · have h' : ¬ x.length < m.length := by simpa using h
          have : heldB x m = false := by simp [heldB, h']
          simp [this]
      · have ek : ((ls.filter (heldB x)).map fun _ => Mini.D.int 1).isEmpty = keepB ls x := by
          rw [← keepB_eq]; simp
        generalize (ls.filter (heldB x)).map (fun _ => Mini.D.int 1) = ys at ek
        simp [ek]
        refine condK_i (fun h => ?_) (fun h => ?_)
        · have z5 : (done.filter (keepB ls)).length < 16777216 := by
            have := List.length_filter_le (keepB ls) done
            have : done.length ≤ ls.length := by rw [e]; simp
            omega
          simp [sizeLine_eq, z5, h]
        · simp [h]
    · rintro ρ rfl
      have hkl : ∀ l ∈ ls.filter (keepB ls), l ∈ ls := fun l hl => (List.mem_filter.mp hl).1
      obtain ⟨ks, hks, _, es⟩ := sortedD_nrows (m := true) (ks := ls.filter (keepB ls)) fun l hl => by
        obtain ⟨j, hj, ej⟩ := List.getElem_of_mem (hkl l hl)
        have h1 := (hls j hj).1.length_eq
        rw [ej] at h1
        intro e0
        rw [e0] at h1
        simp [behind] at h1
      simp [es]
      refine ⟨ks, rfl, by have := List.length_filter_le (keepB ls) ls; rw [hks.length_eq]; omega, fun l hl => ?_, fun k hk hmax => ?_⟩
      · obtain ⟨j, hj, ej⟩ := List.getElem_of_mem (hkl l (hks.mem_iff.mp hl))
        have := hls j hj
        rw [ej] at this
        exact ⟨j, by omega, this⟩
      · have hkk : k < ls.length := by omega
        refine ⟨ls[k], hks.mem_iff.mpr (List.mem_filter.mpr ⟨List.getElem_mem hkk, ?_⟩), (hls k hkk).1⟩
        unfold keepB
        rw [decide_eq_true_iff]
        rintro m hm ⟨h1, _⟩
        obtain ⟨j, hj, rfl⟩ := List.getElem_of_mem hm
        have h2 := (hls j hj).1.length_eq
        have h3 := (hls k hkk).1.length_eq
        have h4 := hmax j (by omega)
        omega
end Mini
set_option linter.all false
set_option maxRecDepth 100000
namespace Mini
open PySem L2
/-! S46i: the least colours along an order. -/
section
variable {Φ : Phi} {X : Ex → Env → Prop} {ρ : Env}
theorem RSI_keysP {p : CP} {Q : LvT → Env → Prop} : (denI Φ (.keysP p) ρ).S Q X = (denP Φ p ρ).S (fun ks ρ => optK ((getS ρ p.root).bind fun d => updAt fLockK ks d) fun r => Q ⟨r.1, false⟩ (ρ.set p.root (some r.2))) X := by
  rw [denI]
  simp only [S_bind]
  refine S_ext fun ks ρ => ?_
  cases h : ((getS ρ p.root).bind fun d => updAt fLockK ks d) with
  | none => rfl
  | some r => obtain ⟨xs, d'⟩ := r; rfl
@[simp] theorem SI_keysP {p : CP} {Q : LvT → Env → Prop} : (dI Φ (.keysP p) ρ).S Q X = (dP Φ p ρ).S (fun ks ρ => optK ((getS ρ p.root).bind fun d => updAt fLockK ks d) fun r => Q ⟨r.1, false⟩ (ρ.set p.root (some r.2))) X := by with_unfolding_all exact RSI_keysP
end
@[simp] theorem fLock_nk {l : List Nat} : fLockK (nkD true l) = some (natsD l, nkD false l) := by
  have : D.pures (List.replicate l.length (Mini.D.bl true)) = true := by rw [pures_iff]; simp
  simp only [nkD, fLockK, this, if_true]
  simp [natsD, keyD, Function.comp_def]
/-- the rows, those of some places frozen -/
def nearmD (n : Nat) (nb : Nat → List Nat) (done : List Nat) : Mini.D := .lst true ((List.range n).map fun i => nkD (decide (i ∉ done)) (nb i))
theorem nearmD_nil {n : Nat} {nb : Nat → List Nat} : nearmD n nb [] = nearoD n nb := by simp [nearmD, nearoD]
theorem nearmD_get {n : Nat} {nb : Nat → List Nat} {done : List Nat} {i : Nat} (h : i < n) : ixD (nearmD n nb done) (.int i) = some (nkD (decide (i ∉ done)) (nb i)) := by
  rw [nearmD, ixD_lst, atI_map, atI_nat]
  simp [h]
theorem nearmD_put {n : Nat} {nb : Nat → List Nat} {done : List Nat} {i : Nat} (h : i < n) : putIx (nearmD n nb done) (.int i) (nkD false (nb i)) = some (nearmD n nb (done ++ [i])) := by
  simp only [nearmD, putIx_lst, List.length_map, List.length_range]
  rw [ixN_nat, if_pos h, Option.map_some, map_range_set]
  congr 2
  refine map_range_congr fun j hj => ?_
  by_cases hji : j = i
  · subst hji; simp
  · simp [hji]
/-- colours told so far -/
def colD (done : List Nat) (col : Nat → Nat) : Mini.D := .dK true (done.map fun k : Nat => (.inl (k : Int) : Key)) (done.map fun k => .int (col k : Nat))
theorem look_col (col : Nat → Nat) : ∀ (done : List Nat) (x : Nat), x ∈ done → lookK (done.map fun k : Nat => (.inl (k : Int) : Key)) (done.map fun k => Mini.D.int (col k : Nat)) (.inl (x : Int)) = some (.int (col x : Nat))
  | a :: done, x, h => by
    simp only [List.map_cons, lookK]
    by_cases hax : a = x
    · subst hax; simp
    · have hn : (Sum.inl (a : Int) : Key) ≠ Sum.inl (x : Int) := fun e => by injection e with e; omega
      rw [if_neg hn]
      exact look_col col done x ((List.mem_cons.mp h).resolve_left (Ne.symm hax))
theorem colD_get {done : List Nat} {col : Nat → Nat} {x : Nat} (h : x ∈ done) : ixD (colD done col) (.int x) = some (.int (col x : Nat)) := by
  show (keyOf (.int (x : Int))).bind (fun k => lookK _ _ k) = _
  rw [keyOf_int, Option.bind_some, look_col col done x h]
@[simp] theorem pure_colD {done : List Nat} {col : Nat → Nat} : (colD done col).pure = false := rfl
@[simp] theorem in_colD {done : List Nat} {col : Nat → Nat} {k : Nat} : cmpD .In (.int k) (colD done col) = some (decide (k ∈ done)) := by
  unfold colD; rw [cmp_inK, hasK_nk]
theorem colD_set {done : List Nat} {col : Nat → Nat} {x c : Nat} (h : x ∉ done) (hl : done.length < sizeLine) : fSetIx (.int x) (.int (c : Nat)) (colD done col) = some (.non, colD (done ++ [x]) fun y => if y = x then c else col y) := by
  have e : (Sum.inl (x : Int) : Key) ∉ done.map fun k : Nat => (.inl (k : Int) : Key) := by
    simp only [List.mem_map, not_exists, not_and]
    intro y hy e
    have : y = x := by injection e with e; omega
    exact h (this ▸ hy)
  simp only [colD, fSetIx, keyOf_int, Option.bind_some, List.length_map, if_pos hl, putT, if_neg e]
  have e2 : (done.map fun k => Mini.D.int ((if k = x then c else col k : Nat) : Int)) = done.map fun k => .int (col k : Nat) := by
    refine List.map_congr_left fun k hk => ?_
    rw [if_neg fun e => by rw [e] at hk; exact h hk]
  simp [e2]
/-- one that isn't taken, not beyond how many are -/
theorem free_of (t : List Nat) : ∃ x, x ≤ t.length ∧ x ∉ t := by
  apply Classical.byContradiction
  intro h
  have h2 : ∀ x ∈ List.range (t.length + 1), x ∈ t := fun x hx => by
    apply Classical.byContradiction
    intro hn
    exact h ⟨x, by simp at hx; omega, hn⟩
  have := List.Nodup.length_le_of_subset (List.nodup_range (n := t.length + 1)) h2
  simp at this
  omega
theorem len_both {a b : List Nat} (ha : a.Nodup) (hb : b.Nodup) : (a.filter fun x => decide (x ∈ b)).length = (b.filter fun x => decide (x ∈ a)).length := by
  refine List.Perm.length_eq ((List.perm_ext_iff_of_nodup (ha.filter _) (hb.filter _)).mpr fun x => ?_)
  simp [and_comm]
theorem min_free (n : Nat) (t : List Nat) (hn : t.length ≤ n) : ∃ c : Nat, c ≤ t.length ∧ c ∉ t ∧ (((List.range (n + 1)).filter fun x => decide (x ∉ t)).map fun k : Nat => (k : Int)).min? = some (c : Int) := by
  obtain ⟨x, hx, hxt⟩ := free_of t
  have hm : x ∈ (List.range (n + 1)).filter fun x => decide (x ∉ t) := by simp [hxt]; omega
  cases e : (((List.range (n + 1)).filter fun x => decide (x ∉ t)).map fun k : Nat => (k : Int)).min? with
  | none =>
    rw [List.min?_eq_none_iff, List.map_eq_nil_iff] at e
    rw [e] at hm; cases hm
  | some M =>
    obtain ⟨h1, h2⟩ := List.min?_eq_some_iff.mp e
    obtain ⟨m, hm1, rfl⟩ := List.mem_map.mp h1
    have h3 := h2 _ (List.mem_map.mpr ⟨x, hm, rfl⟩)
    have h4 := (List.mem_filter.mp hm1).2
    exact ⟨m, by omega, by simpa using h4, rfl⟩
def GreedyS (F : List Mini.D → Cr) : Prop := ∀ (w : Web) (o : List Nat), w.ok → o.Perm (List.range w.n) → (F [w.D, .tup (natsD o)]).S (fun r os => ∃ c : List Nat, r = .tup (natsD c) ∧ c.length = w.n ∧ (∀ i k, w.adj i k → c.getD i 0 ≠ c.getD k 0) ∧ (∀ k (h : k < o.length), c.getD o[k] 0 ≤ ((o.take k).filter fun x => decide (x ∈ w.nb o[k])).length) ∧ os = []) noX
theorem greedy_ok {Φ : Phi} {f1 : Nat} (hn : NearOS (Φ f1)) : GreedyS (rF Φ (f_law_greedy f1)) := by
  intro w o hw ho
  refine S_def rfl ?_
  have hWp : w.D.pure = true := rfl
  have hWf : w.D.frz = w.D := frz_pure hWp
  have hol : o.length = w.n := by rw [ho.length_eq, List.length_range]
  have hon : o.Nodup := ho.nodup_iff.mpr List.nodup_range
  have how : ∀ x ∈ o, x < w.n := fun x hx => by simpa using ho.mem_iff.mp hx
  have hn1 := hw.le
  have eWn : ixD w.D (.int 0) = some (.int w.n) := rfl
  simp [f_law_greedy, CF.start, hWp, hWf]
  refine Cr.S_use (hn w hw) ?_
  rintro _ _ ⟨rfl, rfl⟩
  simp
  refine forX_ixN o (fun k ρ => ∃ col : Nat → Nat, (∀ j (h : j < o.length), j < k → col o[j] ≤ ((o.take j).filter fun x => decide (x ∈ w.nb o[j])).length ∧ ∀ i (hi : i < j), w.adj o[j] o[i] → col o[j] ≠ col o[i]) ∧ ρ = [some w.D, some (.tup (natsD o)), some (nearmD w.n w.nb (o.take k)), some (colD (o.take k) col), none, none, none, none]) ⟨fun _ => 0, by intros; omega, by simp [nearmD_nil, colD]⟩ ?_ ?_
  · rintro k hk ρ ⟨col, hI, rfl⟩
    have hok : o[k] < w.n := how _ (List.getElem_mem hk)
    have hkt : o[k] ∉ o.take k := by
      intro h
      obtain ⟨i, hi, e⟩ := List.mem_take_iff_getElem.mp h
      have := (List.getElem_inj hon).mp e
      omega
    have g1 := nearmD_get (nb := w.nb) (done := o.take k) hok
    have g2 := nearmD_put (nb := w.nb) (done := o.take k) hok
    have hnl : (w.nb o[k]).length < 16777216 := by
      have := rowOf_length (cs := w.cells) (i := o[k])
      have := hw.len
      unfold Web.nb
      omega
    simp [g1, g2, hkt, sizeLine_eq, hnl]
    refine lcX_pureN (fun x => decide (x ∈ o.take k)) (fun x => .int (col x : Nat)) (w.nb o[k]) (fun x hx => ?_) ?_
    · simp
      refine condK_i (fun h => ?_) (fun h => ?_)
      · have g3 := colD_get (col := col) (of_decide_eq_true h)
        simp [g3]
      · simp
    · rw [map_natsD]
      obtain ⟨c, hc1, hc2, hc3⟩ := min_free w.n (((w.nb o[k]).filter fun x => decide (x ∈ o.take k)).map col) (by
        rw [List.length_map]
        have e := len_both (nb_nodup hw o[k]) (hon.sublist (List.take_sublist k o))
        rw [e]
        have := List.length_filter_le (fun x => decide (x ∈ w.nb o[k])) (o.take k)
        simp at this
        omega)
      have hlt : ((w.nb o[k]).filter fun x => decide (x ∈ o.take k)).length = ((o.take k).filter fun x => decide (x ∈ w.nb o[k])).length := len_both (nb_nodup hw o[k]) (hon.sublist (List.take_sublist k o))
      generalize htk : (((w.nb o[k]).filter fun x => decide (x ∈ o.take k)).map col) = taken at hc1 hc2 hc3
      have er : rangeD 0 (w.n + 1) = natsD (List.range (w.n + 1)) := by simp [rangeD, natsD]
      obtain ⟨z, ez, ez'⟩ : ∃ z : Nat, ((w.n : Int) + 1) = z ∧ z = w.n + 1 := ⟨w.n + 1, by omega, rfl⟩
      have z1 : (-4611686018427387904 : Int) ≤ z := by omega
      have z2 : (z : Int) < 4611686018427387904 := by omega
      have z3 : z < 16777216 := by omega
      have er : rangeD 0 z = natsD (List.range z) := by simp [rangeD, natsD]
      simp [eWn, ez, z1, z2, z3, sizeLine_eq]
      rw [er]
      refine lcX_filtV (fun x => decide (x ∉ taken)) (List.range z) rfl (fun x hx => ?_) ?_
      · simp
      · have em : b1D .min (.lst true (natsD ((List.range z).filter fun x => decide (x ∉ taken)))) = some (.int (c : Nat)) := by
          rw [natsD_eq, ez']; simp only [b1D]; rw [intsOf_map, Option.bind_some, hc3]; rfl
        have hks : (o.take k).length < sizeLine := by rw [sizeLine_eq]; simp; omega
        have g3 := colD_set (col := col) (c := c) hkt hks
        generalize (List.range z).filter (fun x => decide (x ∉ taken)) = fl at em
        simp [em, g3]
        have hne : ∀ j, j < k → ∀ hj : j < o.length, o[j] ≠ o[k] := fun j hj hjl e => by
          have := (List.getElem_inj hon).mp e
          omega
        refine ⟨_, fun j h hjk => ?_, rfl⟩
        by_cases hjk2 : j < k
        · have h1 := hne j hjk2 h
          obtain ⟨h2, h3⟩ := hI j h hjk2
          rw [if_neg h1]
          refine ⟨h2, fun i hi ha => ?_⟩
          rw [if_neg (hne i (by omega) (by omega))]
          exact h3 i hi ha
        · have : j = k := by omega
          subst this
          rw [if_pos rfl]
          refine ⟨by rw [← hlt]; rw [← htk, List.length_map] at hc1; exact hc1, fun i hi ha => ?_⟩
          rw [if_neg (hne i hi (by omega))]
          intro ec
          apply hc2
          rw [← htk, ec]
          refine List.mem_map.mpr ⟨o[i], List.mem_filter.mpr ⟨mem_rowOf.mpr ha, ?_⟩, rfl⟩
          exact decide_eq_true (List.mem_take_iff_getElem.mpr ⟨i, by omega, rfl⟩)
  · rintro ρ ⟨col, hI, rfl⟩
    have z1 : (-4611686018427387904 : Int) ≤ w.n := by omega
    have z2 : (w.n : Int) < 4611686018427387904 := by omega
    have z3 : w.n < 16777216 := by omega
    have er : rangeD 0 w.n = natsD (List.range w.n) := by simp [rangeD, natsD]
    simp [eWn, z1, z2, z3, sizeLine_eq]
    rw [er]
    refine lcX_mapN (fun a => .int (col a : Nat)) (List.range w.n) (fun a ha => ?_) ?_
    · have g3 := colD_get (col := col) (ho.mem_iff.mpr ha)
      simp [g3]
    · rw [map_natsD]
      have gd : ∀ i, i < w.n → ((List.range w.n).map col).getD i 0 = col i := fun i hi => by simp [List.getD, hi]
      simp [-List.getD_eq_getElem?_getD]
      refine ⟨_, rfl, by simp, fun i k hik => ?_, fun k hk => ?_⟩
      · have hr := hw.rng i k hik
        rw [gd i hr.1, gd k hr.2.1]
        obtain ⟨a, ha, rfl⟩ := List.getElem_of_mem (ho.mem_iff.mpr (List.mem_range.mpr hr.1))
        obtain ⟨b, hb, rfl⟩ := List.getElem_of_mem (ho.mem_iff.mpr (List.mem_range.mpr hr.2.1))
        rcases Nat.lt_trichotomy a b with h | h | h
        · exact fun e => (hI b hb hb).2 a h (hw.symm _ _ hik) e.symm
        · subst h; exact absurd rfl hr.2.2
        · exact (hI a ha ha).2 b h hik
      · rw [gd _ (how _ (List.getElem_mem hk))]
        exact (hI k hk hk).1
end Mini
set_option linter.all false
set_option maxRecDepth 100000
namespace Mini
open PySem L2
/-! S46j: a web built so that nothing fills. -/
/-- who stood by when each came -/
def AhJ (as : List (List Nat)) : Prop := (∀ k (h : k < as.length), (∀ x ∈ as[k], x < k) ∧ as[k].length ≤ k) ∧ ∀ k (h : k < as.length), ∀ a ∈ as[k], ∀ b ∈ as[k], a < b → ∃ hb : b < as.length, a ∈ as[b]
theorem AhJ.nil : AhJ [] := ⟨fun k h => by simp at h, fun k h => by simp at h⟩
theorem AhJ.snoc {as : List (List Nat)} {s : List Nat} (h : AhJ as) (h1 : ∀ x ∈ s, x < as.length) (h2 : s.length ≤ as.length) (h3 : ∀ a ∈ s, ∀ b ∈ s, a < b → ∃ hb : b < as.length, a ∈ as[b]) : AhJ (as ++ [s]) := by
  refine ⟨fun k hk => ?_, fun k hk a ha b hb hab => ?_⟩
  · by_cases hkl : k < as.length
    · rw [List.getElem_append_left hkl]; exact h.1 k hkl
    · have e : k = as.length := by simp at hk; omega
      subst e
      rw [List.getElem_append_right (Nat.le_refl _)]
      simp
      exact ⟨h1, h2⟩
  · have key : ∃ hb : b < as.length, a ∈ as[b] := by
      by_cases hkl : k < as.length
      · rw [List.getElem_append_left hkl] at ha hb; exact h.2 k hkl a ha b hb hab
      · have e : k = as.length := by simp at hk; omega
        subst e
        rw [List.getElem_append_right (Nat.le_refl _)] at ha hb
        simp at ha hb
        exact h3 a ha b hb hab
    obtain ⟨hb1, hm⟩ := key
    exact ⟨by simp; omega, by rw [List.getElem_append_left hb1]; exact hm⟩
/-- the pairs told by it -/
def AhP (p : List Nat) (as : List (List Nat)) : List Pr := (as.zipIdx.map fun q => q.1.map fun x => (⟨false, p.getD q.2 0, p.getD x 0⟩ : Pr)).flatten
theorem AhP_snoc {p : List Nat} {as : List (List Nat)} {s : List Nat} : AhP p (as ++ [s]) = AhP p as ++ s.map fun x => (⟨false, p.getD as.length 0, p.getD x 0⟩ : Pr) := by
  simp [AhP, List.zipIdx_append]
theorem mem_AhP {p : List Nat} {as : List (List Nat)} {q : Pr} : q ∈ AhP p as ↔ ∃ k, ∃ h : k < as.length, ∃ x ∈ as[k], q = ⟨false, p.getD k 0, p.getD x 0⟩ := by
  unfold AhP
  rw [List.mem_flatten]
  constructor
  · rintro ⟨l, hl, hq⟩
    obtain ⟨⟨s, k⟩, hs, rfl⟩ := List.mem_map.mp hl
    obtain ⟨x, hx, rfl⟩ := List.mem_map.mp hq
    have h2 := List.mk_mem_zipIdx_iff_getElem?.mp hs
    obtain ⟨h3, rfl⟩ := List.getElem?_eq_some_iff.mp h2
    exact ⟨k, h3, x, hx, rfl⟩
  · rintro ⟨k, h, x, hx, rfl⟩
    refine ⟨_, List.mem_map.mpr ⟨(as[k], k), List.mk_mem_zipIdx_iff_getElem?.mpr (List.getElem?_eq_getElem h), rfl⟩, List.mem_map.mpr ⟨x, hx, rfl⟩⟩
def FreeWebS (F : List Mini.D → Cr) : Prop := ∀ (d : Dk) (m : Nat), d.ok → 6 ≤ m → m ≤ 60 → (F [d.D, .int m]).S (fun r o => ∃ (w : Web) (l : List Nat) (d' : Dk), r = .tup [w.D, .tup (natsD l)] ∧ w.ok ∧ w.n ≤ m ∧ FreeL w l ∧ d'.ok ∧ o = [d'.D]) noX
def ahD (as : List (List Nat)) : Mini.D := .lst true (as.map fun s => .lst false (natsD s))
@[simp] theorem pure_ahD {as : List (List Nat)} : (ahD as).pure = false := rfl
theorem ahD_get {as : List (List Nat)} {i : Nat} (h : i < as.length) : ixD (ahD as) (.int i) = some (.lst false (natsD as[i])) := by
  rw [ahD, ixD_lst, atI_map, atI_nat, List.getElem?_eq_getElem h]; rfl
/-- a web told so has the order, from behind -/
theorem free_of_ah {w : Web} {p : List Nat} {as : List (List Nat)} (hp : p.Perm (List.range w.n)) (hl : as.length = w.n) (hJ : AhJ as) (hw : ∀ i k, (i, k) ∈ w.cells ↔ ∃ q ∈ AhP p as, (q.i = i ∧ q.k = k) ∨ (q.i = k ∧ q.k = i)) : FreeL w p.reverse := by
  have hpl : p.length = w.n := by simpa using hp.length_eq
  have hpn : p.Nodup := hp.nodup_iff.mpr List.nodup_range
  have pg : ∀ a (h : a < p.length), p.getD a 0 = p[a] := fun a h => by simp [List.getD, h]
  have adj : ∀ a b (ha : a < p.length) (hb : b < p.length), a < b → (w.adj p[b] p[a] ↔ a ∈ as[b]'(by omega)) := by
    intro a b ha hb hab
    unfold Web.adj
    rw [hw]
    constructor
    · rintro ⟨q, hq, h⟩
      obtain ⟨k, hk, x, hx, rfl⟩ := mem_AhP.mp hq
      have hxk := (hJ.1 k hk).1 x hx
      rw [pg k (by omega), pg x (by omega)] at h
      rcases h with ⟨h1, h2⟩ | ⟨h1, h2⟩
      · have e1 := (List.getElem_inj hpn).mp h1
        have e2 := (List.getElem_inj hpn).mp h2
        subst e1 e2; exact hx
      · have e1 := (List.getElem_inj hpn).mp h1
        have e2 := (List.getElem_inj hpn).mp h2
        omega
    · intro h
      exact ⟨_, mem_AhP.mpr ⟨b, by omega, a, h, rfl⟩, .inl ⟨pg b hb, pg a ha⟩⟩
  have symm : ∀ i k, w.adj i k → w.adj k i := fun i k h => by
    unfold Web.adj at *
    rw [hw] at h ⊢
    obtain ⟨q, hq, h⟩ := h
    exact ⟨q, hq, h.symm⟩
  refine ⟨(List.reverse_perm p).trans hp, fun k hk => ?_⟩
  have hk' : k < p.length := by simpa using hk
  have hnd : ((p.reverse.drop (k + 1)).filter fun x => decide (x ∈ w.nb p.reverse[k])).Nodup := (((List.reverse_perm p).nodup_iff.mpr hpn).sublist (List.drop_sublist _ _)).filter _
  have hmem : ∀ x ∈ (p.reverse.drop (k + 1)).filter fun x => decide (x ∈ w.nb p.reverse[k]), ∃ a, ∃ h : a < p.length, x = p[a] ∧ a ∈ as[p.length - 1 - k]'(by omega) := by
    intro x hx
    obtain ⟨h1, h2⟩ := List.mem_filter.mp hx
    have h2 := mem_rowOf.mp (of_decide_eq_true h2)
    obtain ⟨j, hj, rfl⟩ := List.getElem_of_mem h1
    simp only [List.length_drop, List.length_reverse] at hj
    rw [List.getElem_drop, List.getElem_reverse] at *
    rw [List.getElem_reverse] at h2
    refine ⟨_, by omega, rfl, ?_⟩
    exact (adj _ _ (by omega) (by omega) (by omega)).mp h2
  unfold Full
  refine List.Pairwise.imp_of_mem (fun {x y} hx hy hxy => ?_) hnd
  obtain ⟨a, ha, rfl, ma⟩ := hmem x hx
  obtain ⟨b, hb, rfl, mb⟩ := hmem y hy
  rcases Nat.lt_trichotomy a b with h | h | h
  · obtain ⟨h1, h2⟩ := hJ.2 _ _ a ma b mb h
    exact symm _ _ ((adj a b ha hb h).mpr h2)
  · subst h; exact absurd rfl hxy
  · obtain ⟨h1, h2⟩ := hJ.2 _ _ b mb a ma h
    exact (adj b a hb ha h).mpr h2
def FWE (m : Nat) (g fu : Int) (n : Nat) (p : List Nat) (as : List (List Nat)) (ps : List Pr) (d : Dk) (o8 o9 o10 o11 : Option Mini.D) : Env := [some d.D, some (.int m), some (.int (b2i (decide (g = 5)))), some (.int fu), some (.int n), some (.lst false (natsD p)), some (ahD as), some (.lst true (ps.map Pr.D)), o8, o9, o10, o11]
def FWJ (m : Nat) (g fu : Int) (n : Nat) (p : List Nat) (k : Nat) (ρ : Env) : Prop := ∃ (as : List (List Nat)) (d : Dk) (o10 : Option Mini.D), (∀ x, o10 = some x → x.pure = true) ∧ d.ok ∧ as.length = k ∧ AhJ as ∧ (AhP p as).length ≤ 100 * k ∧ ρ = FWE m g fu n p as (AhP p as) d none none o10 none
def FWR (m : Nat) (g fu : Int) (n : Nat) (p : List Nat) (as : List (List Nat)) (k : Nat) (ρ : Env) : Prop := ∃ (s : List Nat) (d : Dk) (o10 : Option Mini.D), (∀ x, o10 = some x → x.pure = true) ∧ d.ok ∧ (∀ x ∈ s, x < k) ∧ s.length ≤ k ∧ (∀ a ∈ s, ∀ b ∈ s, a < b → ∃ hb : b < as.length, a ∈ as[b]) ∧ ρ = FWE m g fu n p as (AhP p as) d (some (.int k)) (some (.lst false (natsD s))) o10 none
def FWL (m : Nat) (g fu : Int) (n : Nat) (p : List Nat) (as : List (List Nat)) (k b : Nat) (L : List Nat) (xs acc : List Mini.D) (ρ : Env) : Prop := ∃ (done rest s : List Nat) (d : Dk), L = done ++ rest ∧ xs = natsD rest ∧ acc = natsD s ∧ s.Sublist done ∧ d.ok ∧ ρ = FWE m g fu n p as (AhP p as) d (some (.int k)) (some (.lst false [])) (some (.int b)) none
theorem freeWeb_ok {Φ : Phi} {f1 f2 f3 : Nat} (hd : DrawS (Φ f1)) (ht : TurnedS (Φ f2)) (hw : WebOfS (Φ f3)) : FreeWebS (rF Φ (f_law_free_web f1 f2 f3)) := by
  intro d m hd0 hm6 hm
  refine S_def rfl ?_
  simp [f_law_free_web, CF.start]
  refine Cr.S_use (hd d _ hd0 (by omega) (by omega)) ?_
  rintro _ _ ⟨g, d, rfl, _, _, hd0, rfl⟩
  simp
  refine Cr.S_use (hd d _ hd0 (by omega) (by omega)) ?_
  rintro _ _ ⟨fu, d, rfl, _, _, hd0, rfl⟩
  simp
  refine Cr.S_use (hd d _ hd0 (by omega) (by omega)) ?_
  rintro _ _ ⟨s, d, rfl, s1, s2, hd0, rfl⟩
  simp
  refine Cr.S_use (hd d _ hd0 (by omega) (by omega)) ?_
  rintro _ _ ⟨t, d, rfl, t1, t2, hd0, rfl⟩
  have many : ∃ n : Nat, 1 ≤ n ∧ n ≤ m ∧ atI [Mini.D.int (1 + s), Mini.D.int (if (1 : Int) < m - t then m - t else 1)] (b2i (decide (g = 5))) = some (.int n) := by
    by_cases h : g = 5
    · refine ⟨(if (1 : Int) < m - t then m - t else 1).toNat, by split <;> omega, by split <;> omega, ?_⟩
      simp [h]
      split <;> omega
    · refine ⟨(1 + s).toNat, by omega, by omega, ?_⟩
      simp [h]; omega
  obtain ⟨n, n1, n2, e⟩ := many
  simp [e, -SS_for]
  refine Cr.S_use (ht d n hd0 (by omega)) ?_
  rintro _ _ ⟨p, d, rfl, hp, hd0, rfl⟩
  have hpl : p.length = n := by simpa using hp.length_eq
  have ep : (p.map fun i : Nat => Mini.D.int i) = natsD p := rfl
  rw [ep]
  simp [-SS_for]
  rw [SS_for]
  simp
  refine ⟨by omega, ?_⟩
  refine forX_range 0 n (fun k ρ => FWJ m g fu n p k ρ) ⟨[], d, none, by simp, hd0, rfl, AhJ.nil, by simp [AhP], rfl⟩ ?_ ?_
  · rintro k ρ hk ⟨as, d, o10, ho10, hd0, hak, hJ, hpl2, rfl⟩
    have z1 : (-4611686018427387904 : Int) ≤ n := by omega
    simp [FWE]
    refine Rx.S_mid (fun fl ρ => fl = .next ∧ FWR m g fu n p as k ρ) ?_ ?_
    · simp [SS_ifs]
      refine condK_i (fun hk0 => ?_) (fun hk0 => ?_)
      · have hk0' : 0 < k := by simpa using hk0
        simp
        refine Cr.S_use (hd d k hd0 (by omega) (by omega)) ?_
        rintro _ _ ⟨b, d, rfl, b1, b2, hd0, rfl⟩
        obtain ⟨b, rfl⟩ := Int.eq_ofNat_of_zero_le b1
        have hb : b < as.length := by omega
        have g1 := ahD_get hb
        obtain ⟨hb1, hb2⟩ := hJ.1 b hb
        have z2 : 1 + (as[b]).length ≤ 16777216 := by omega
        have z3 : (as[b]).length + 1 < 16777216 := by omega
        simp [g1, sizeLine_eq, z2, z3]
        refine lcX_rest (fun xs acc ρ => FWL m g fu n p as k b (b :: as[b]) xs acc ρ) _ _ _ ⟨[], b :: as[b], [], d, rfl, rfl, rfl, List.Sublist.refl _, hd0, rfl⟩ ?_ ?_
        · rintro x r acc ρ ⟨done, rest, s, d, e1, e2, rfl, hs, hd0, rfl⟩
          cases rest with
          | nil => cases e2
          | cons a rest =>
            have e2 : x :: r = .int (a : Nat) :: natsD rest := e2
            simp only [List.cons.injEq] at e2
            obtain ⟨rfl, rfl⟩ := e2
            simp [FWE]
            refine condK_i (fun hf => ?_) (fun hf => ?_)
            · simp
              exact ⟨done ++ [a], rest, s ++ [a], d, by simp [e1], rfl, by simp [natsD], hs.append (List.Sublist.refl _), hd0, rfl⟩
            · simp
              refine Cr.S_use (hd d _ hd0 (by omega) (by omega)) ?_
              rintro _ _ ⟨y, d, rfl, y1, y2, hd0, rfl⟩
              simp
              refine condK_i (fun hy => ?_) (fun hy => ?_)
              · simp
                exact ⟨done ++ [a], rest, s ++ [a], d, by simp [e1], rfl, by simp [natsD], hs.append (List.Sublist.refl _), hd0, rfl⟩
              · simp
                exact ⟨done ++ [a], rest, s, d, by simp [e1], rfl, rfl, hs.trans (List.sublist_append_left _ _), hd0, rfl⟩
        · rintro acc ρ ⟨done, rest, s, d, e1, e2, rfl, hs, hd0, rfl⟩
          have er : rest = [] := by cases rest with | nil => rfl | cons a rest => cases e2
          subst er
          have hsub : s.Sublist (b :: as[b]) := by rw [e1, List.append_nil]; exact hs
          simp [FWE]
          refine ⟨s, d, _, ?_, hd0, fun x hx => ?_, ?_, fun x hx y hy hxy => ?_, rfl⟩
          · intro x hx; cases hx; rfl
          · have := hsub.subset hx
            rcases List.mem_cons.mp this with rfl | h
            · omega
            · have := hb1 x h; omega
          · have := hsub.length_le
            simp at this
            omega
          · have h1 := hsub.subset hx
            have h2 := hsub.subset hy
            rcases List.mem_cons.mp h2 with rfl | h2
            · rcases List.mem_cons.mp h1 with rfl | h1
              · omega
              · exact ⟨hb, h1⟩
            · rcases List.mem_cons.mp h1 with rfl | h1
              · have := hb1 y h2; omega
              · exact hJ.2 b hb x h1 y h2 hxy
      · simp
        exact ⟨[], d, o10, ho10, hd0, by simp, by simp, by simp, rfl⟩
    · rintro _ _ ⟨rfl, s, d, o10, ho10, hd0, h1, h2, h3, rfl⟩
      have z2 : as.length < 16777216 := by omega
      have z3 : s.length < 16777216 := by omega
      have hpk : atI (natsD p) (k : Int) = some (.int (p.getD k 0 : Nat)) := natsD_getD (by omega)
      have z4 : (AhP p as).length + s.length ≤ 16777216 := by omega
      simp [FWE, ahD, sizeLine_eq, z2, z3]
      refine lcX_mapN (fun a => Pr.D ⟨false, p.getD k 0, p.getD a 0⟩) s (fun a ha => ?_) ?_
      · have hpa : atI (natsD p) (a : Int) = some (.int (p.getD a 0 : Nat)) := natsD_getD (by have := h1 a ha; omega)
        simp [hpk, hpa, Pr.D, -List.getD_eq_getElem?_getD]
      · simp [sizeLine_eq, z4, -List.getD_eq_getElem?_getD]
        refine ⟨as ++ [s], d, o10, ho10, hd0, by simp [hak], hJ.snoc (by rw [hak]; exact h1) (by rw [hak]; exact h2) h3, ?_, ?_⟩
        · rw [AhP_snoc, List.length_append, List.length_map]; omega
        · simp [FWE, ahD, AhP_snoc, hak, Function.comp_def, -List.getD_eq_getElem?_getD]
  · rintro ρ ⟨as, d, o10, ho10, hd0, hak, hJ, hpl2, rfl⟩
    simp [FWE]
    refine Cr.S_use (hw n (AhP p as) (by omega)) ?_
    rintro _ _ ⟨w, rfl, w1, w2, w3, w4, rfl⟩
    have er : (natsD p).reverse = natsD p.reverse := by simp [natsD]
    have hwf : w.D.frz = w.D := rfl
    simp [er, hwf]
    have hP : ∀ q ∈ AhP p as, q.i < n ∧ q.k < n ∧ q.i ≠ q.k := by
      intro q hq
      obtain ⟨k, hk, x, hx, rfl⟩ := mem_AhP.mp hq
      have hxk := (hJ.1 k hk).1 x hx
      have pn : p.Nodup := hp.nodup_iff.mpr List.nodup_range
      have pg : ∀ a (h : a < p.length), p.getD a 0 = p[a] := fun a h => by simp [List.getD, h]
      have pm : ∀ a (h : a < p.length), p[a] < n := fun a h => by simpa using hp.mem_iff.mp (List.getElem_mem h)
      show p.getD k 0 < n ∧ p.getD x 0 < n ∧ p.getD k 0 ≠ p.getD x 0
      rw [pg k (by omega), pg x (by omega)]
      exact ⟨pm _ _, pm _ _, fun e => by have := (List.getElem_inj pn).mp e; omega⟩
    refine ⟨w, p.reverse, ⟨rfl, rfl⟩, ⟨by omega, by omega, fun i k h => ?_, fun i k h => ?_, w3, by omega⟩, by omega, free_of_ah (by rw [w1]; exact hp) (by omega) hJ w2, d, hd0, rfl⟩
    · obtain ⟨q, hq, h⟩ := (w2 i k).mp h
      obtain ⟨q1, q2, q3⟩ := hP q hq
      rw [w1]
      rcases h with ⟨rfl, rfl⟩ | ⟨rfl, rfl⟩
      · exact ⟨q1, q2, q3⟩
      · exact ⟨q2, q1, Ne.symm q3⟩
    · obtain ⟨q, hq, h⟩ := (w2 i k).mp h
      exact (w2 k i).mpr ⟨q, hq, h.symm⟩
end Mini
set_option linter.all false
set_option maxRecDepth 100000
namespace Mini
open PySem L2
/-! S46k: told; things. -/
theorem Th.thing2 {B w k n : Nat} {d : Mini.D} (h : Th B w k d) (hn : topN n d) (hn2 : n ≤ 1000) : Thing2 d := by
  refine ⟨good_pure h.g, ?_⟩
  have hg := h.g
  cases d with
  | raw xs => simp only [good] at hg
  | scr xs => simp only [good] at hg
  | tup xs =>
    simp only [good] at hg
    have h2 := topN_tup.mp hn
    refine ⟨Nat.le_trans h2.1 hn2, fun x hx => ?_⟩
    have hx1 := goods_iff.mp hg x hx
    refine Th.thing (B := B) (w := W x) (k := x.py.depth) ⟨hx1, Nat.le_refl _, Nat.le_refl _⟩ (h2.2 x hx) hn2
  | _ => trivial
def Told6S (F : List Mini.D → Cr) : Prop := ∀ (w : Web) (t : Mini.D) (B W k n : Nat), w.ok → Th B W k t → topN n t → n ≤ 1000 → B ≤ 10 ^ 41 → W ≤ 16000000 → k ≤ 64 → (F [w.D, t]).S (fun r o => r = .bl true ∧ o = []) noX
theorem told6_ok {Φ : Phi} {f1 f2 : Nat} (h1 : HoldsS (Φ f1)) (h2 : LHoldsS (Φ f2)) : Told6S (rF Φ (f_law_told_k46 f1 f2)) := by
  intro w t B W k n hw ht hn hn2 hB hW hk
  refine S_def rfl ?_
  have htp := good_pure ht.g
  have er := repr_ok ht hB hk hW
  have hth := ht.thing2 hn hn2
  simp [f_law_told_k46, CF.start, htp, er]
  refine Cr.S_use (h1 w t hw hth) ?_
  rintro _ _ ⟨b, rfl, hb, rfl⟩
  simp [htp, isiD]
  refine Cr.S_use (h2 w t hw hth) ?_
  rintro _ _ ⟨b', rfl, hb', rfl⟩
  have : b = b' := by
    rw [Bool.eq_iff_iff, hb, hb']
  subst this
  simp [htp, er]
/-- what is asked of the things -/
def PT2 (d : Mini.D) : Prop := Th (10 ^ 40 + 2) 1303800 7 d ∧ topN 66 d
theorem PT2.pure {d : Mini.D} (h : PT2 d) : d.pure = true := good_pure h.1.g
/-- colours and a set -/
structure Gd where
  c : List Nat
  s : List Nat
def Gd.D (g : Gd) : Mini.D := .tup [.tup (natsD g.c), .tup (natsD g.s)]
structure Gd.ok (g : Gd) : Prop where
  c1 : ∀ x ∈ g.c, x < 900
  s1 : ∀ x ∈ g.s, x < 900
  c2 : g.c.length ≤ 60
  s2 : g.s.length ≤ 60
/-- a good thing's own bounds -/
def PTg (d : Mini.D) : Prop := Th (10 ^ 40) 9000 3 d ∧ topN 60 d
theorem PTg.up {d : Mini.D} (h : PTg d) : PT2 d := ⟨h.1.mono (by omega) (by omega) (by omega), topN_mono (by omega) _ h.2⟩
theorem Th.tups {B w k m : Nat} {xs : List Mini.D} (h : ∀ x ∈ xs, Th B w k x) (hm : xs.length ≤ m) : Th B (3 + m * (w + 2)) (k + 1) (.tup xs) ∧ Th B (3 + m * (w + 2)) (k + 1) (.lst false xs) := by
  have hg : goods B xs := goods_iff.mpr fun x hx => (h x hx).g
  have hd : PyData.depthAll (D.pys xs) ≤ k := depthAll_le.mpr fun x hx => (h x hx).k
  have hw : ∀ xs : List Mini.D, (∀ x ∈ xs, Th B w k x) → Ws xs ≤ xs.length * (w + 2) := by
    intro xs
    induction xs with
    | nil => intro _; simp [Ws]
    | cons x xs ih =>
      intro h
      have h1 := (h x (by simp)).w
      have h2 := ih fun y hy => h y (by simp [hy])
      simp only [Ws, List.length_cons, Nat.succ_mul]
      omega
  have hw2 := hw xs h
  have hw3 : xs.length * (w + 2) ≤ m * (w + 2) := Nat.mul_le_mul_right _ hm
  exact ⟨⟨by simpa only [good] using hg, by simp only [W]; omega, by rw [depth_tup]; omega⟩, ⟨by simp only [good]; exact ⟨trivial, hg⟩, by simp only [W]; omega, by rw [depth_lst]; omega⟩⟩
theorem nats_ok {l : List Nat} (h : ∀ x ∈ l, x < 1000) (hn : l.length ≤ 60) : Th (10 ^ 40) 2823 1 (.tup (natsD l)) ∧ topN 60 (.tup (natsD l)) := ⟨(Th.nats h hn).1, topN_nats hn⟩
/-- a tuple, a list of one, two, three of these -/
theorem PTg_of {xs : List Mini.D} (h : ∀ x ∈ xs, Th (10 ^ 40) 2823 1 x ∧ topN 60 x) (hm : xs.length ≤ 3) : PTg (.tup xs) ∧ PTg (.lst false xs) := by
  obtain ⟨h1, h2⟩ := Th.tups (fun x hx => (h x hx).1) hm
  exact ⟨⟨h1.mono (Nat.le_refl _) (by omega) (by omega), topN_tup.mpr ⟨by omega, fun x hx => (h x hx).2⟩⟩, ⟨h2.mono (Nat.le_refl _) (by omega) (by omega), by simp only [topN]⟩⟩
theorem Gd.ptg {g : Gd} (h : g.ok) : PTg g.D := by
  refine (PTg_of (xs := [.tup (natsD g.c), .tup (natsD g.s)]) (fun x hx => ?_) (by simp)).1
  simp only [List.mem_cons, List.not_mem_nil, or_false] at hx
  rcases hx with rfl | rfl
  · exact nats_ok (fun x hx => by have := h.c1 x hx; omega) h.c2
  · exact nats_ok (fun x hx => by have := h.s1 x hx; omega) h.s2
end Mini
set_option linter.all false
set_option maxRecDepth 100000
namespace Mini
open PySem L2
/-! S46l: things handed in. -/
def ThR (r : Mini.D) (o : List Mini.D) : Prop := ∃ (xs : List Mini.D) (d' : Dk), r = .lst false xs ∧ (∀ x ∈ xs, PT2 x) ∧ xs.length ≤ 100 ∧ d'.ok ∧ o = [d'.D]
def ThingsS (F : List Mini.D → Cr) : Prop := ∀ (d : Dk) (w : Web) (gs : List Gd), d.ok → w.ok → w.n ≤ 60 → (∀ g ∈ gs, g.ok) → gs.length = 3 → (F [d.D, w.D, .lst false (gs.map Gd.D)]).S ThR noX
def TgE (w : Web) (gs : Mini.D) (xs : List Mini.D) (d : Dk) (o4 o5 o6 o7 o8 o9 : Option Mini.D) : Env := [some d.D, some w.D, some gs, some (.lst true xs), o4, o5, o6, o7, o8, o9, none]
def TgJ (w : Web) (gs : Mini.D) (L : Nat) (ρ : Env) : Prop := ∃ (xs : List Mini.D) (d : Dk), d.ok ∧ (∀ x ∈ xs, PT2 x) ∧ xs.length ≤ L ∧ ρ = TgE w gs xs d none none none none none none
def TgR (w : Web) (gs : Mini.D) (xs : List Mini.D) (k : Nat) (ρ : Env) : Prop := ∃ (t : Mini.D) (d : Dk), d.ok ∧ PT2 t ∧ ρ = TgE w gs xs d none (some (.int k)) none (some t) none none
theorem things_ok {Φ : Phi} {f1 f2 f3 : Nat} (hsp : SpoiltS 6 (Φ f1)) (hdraw : DrawS (Φ f2)) (hodd : OddS (Φ f3)) : ThingsS (rF Φ (f_law_things f1 f2 f3)) := by
  intro d w gs hd0 hw hwn hgs hgl
  refine S_def rfl ?_
  have hWp : w.D.pure = true := rfl
  have hWf : w.D.frz = w.D := rfl
  have eWn : ixD w.D (.int 0) = some (.int w.n) := rfl
  simp [f_law_things, CF.start, hWp]
  have hGp : D.pures (gs.map Gd.D) = true := pures_mapp fun _ => rfl
  have hGf : D.frzs (gs.map Gd.D) = gs.map Gd.D := frzs_of_pures hGp
  refine forX_ix Gd.D gs (fun k ρ => TgJ w (.lst false (gs.map Gd.D)) (10 * k) ρ) ⟨[], d, hd0, by simp, by simp, rfl⟩ ?_ ?_
  · rintro k hk ρ ⟨xs, d, hd0, hxs, hxl, rfl⟩
    have og := hgs _ (List.getElem_mem hk)
    generalize gs[k] = g at og
    have hxp : D.pures xs = true := pures_iff.mpr fun x hx => (hxs x hx).pure
    have z1 : g.c.length < 16777216 := by have := og.c2; omega
    simp [TgE, Gd.D, sizeLine_eq, z1]
    refine lcX_mapN (fun a => .int ((a + 1 : Nat) : Int)) g.c (fun a ha => by simp) ?_
    rw [map_natsD]
    have c1 : cutD (natsD g.s) none (some (-1)) = natsD g.s.dropLast := by rw [cutD_last, natsD, natsD, List.map_dropLast]
    have c2 : (natsD g.s).reverse = natsD g.s.reverse := by simp [natsD]
    have er : rangeD 0 w.n = natsD (List.range w.n) := by simp [rangeD, natsD]
    have z2 : (-1000000 : Int) ≤ w.n := by omega
    have z3 : (w.n : Int) ≤ 1000000 := by omega
    have z4 : xs.length + 5 ≤ 16777216 := by omega
    have z5 : xs.length + 10 ≤ 16777216 := by omega
    simp [sizeLine_eq, c1, c2, er, z2, z3, z4, z5, hxp, eWn]
    have base : ∀ x ∈ [Mini.D.tup [D.tup (natsD g.c), D.tup (natsD g.s)], D.tup [D.tup (natsD g.s), D.tup (natsD g.c)],
              D.tup [D.tup (natsD g.c), D.tup (natsD g.s.dropLast)],
              D.tup [D.tup (natsD g.c), D.tup (natsD g.s.reverse)],
              D.tup [D.tup (natsD (List.map (fun a => a + 1) g.c)), D.tup (natsD g.s)],
              D.tup [D.tup (natsD g.c), D.tup (natsD (List.range w.n))], D.tup [D.tup (natsD g.c), D.tup (natsD [])],
              D.tup [D.tup (natsD g.c)], D.tup [D.tup (natsD g.c), D.tup (natsD g.s), D.tup (natsD [])],
              D.lst false [D.tup (natsD g.c), D.tup (natsD g.s)]], PT2 x := by
      have n1 := nats_ok (fun x hx => by have := og.c1 x hx; omega) og.c2
      have n2 := nats_ok (fun x hx => by have := og.s1 x hx; omega) og.s2
      have n3 := nats_ok (l := g.s.dropLast) (fun x hx => by have := og.s1 x ((List.dropLast_sublist _).subset hx); omega) (by have := og.s2; simp; omega)
      have n4 := nats_ok (l := g.s.reverse) (fun x hx => by have := og.s1 x (List.mem_reverse.mp hx); omega) (by have := og.s2; simp; omega)
      have n5 := nats_ok (l := List.map (fun a => a + 1) g.c) (fun x hx => by obtain ⟨a, ha, rfl⟩ := List.mem_map.mp hx; have := og.c1 a ha; omega) (by have := og.c2; simp; omega)
      have n6 := nats_ok (l := List.range w.n) (fun x hx => by have := List.mem_range.mp hx; omega) (by simp; omega)
      have n7 := nats_ok (l := []) (fun x hx => by cases hx) (by simp)
      have two : ∀ {a b : Mini.D}, (Th (10 ^ 40) 2823 1 a ∧ topN 60 a) → (Th (10 ^ 40) 2823 1 b ∧ topN 60 b) → PT2 (.tup [a, b]) ∧ PT2 (.lst false [a, b]) := by
        intro a b ha hb
        have q := PTg_of (xs := [a, b]) (fun x hx => by
          simp only [List.mem_cons, List.not_mem_nil, or_false] at hx
          rcases hx with rfl | rfl
          · exact ha
          · exact hb) (by simp)
        exact ⟨q.1.up, q.2.up⟩
      intro x hx
      simp only [List.mem_cons, List.not_mem_nil, or_false] at hx
      rcases hx with rfl | rfl | rfl | rfl | rfl | rfl | rfl | rfl | rfl | rfl
      · exact (two n1 n2).1
      · exact (two n2 n1).1
      · exact (two n1 n3).1
      · exact (two n1 n4).1
      · exact (two n5 n2).1
      · exact (two n1 n6).1
      · exact (two n1 n7).1
      · exact (PTg_of (xs := [_]) (fun x hx => by rw [List.mem_singleton.mp hx]; exact n1) (by simp)).1.up
      · refine (PTg_of (xs := [_, _, _]) (fun x hx => ?_) (by simp)).1.up
        simp only [List.mem_cons, List.not_mem_nil, or_false] at hx
        rcases hx with rfl | rfl | rfl
        · exact n1
        · exact n2
        · exact n7
      · exact (two n1 n2).2
    refine ⟨_, d, hd0, fun x hx => ?_, ?_, rfl⟩
    · rcases List.mem_append.mp hx with h | h
      · exact hxs x h
      · exact base x h
    · simp; omega
  · rintro ρ ⟨xs, d, hd0, hxs, hxl, rfl⟩
    simp [TgE]
    refine forX_range 0 10 (fun k ρ => TgJ w (.lst false (gs.map Gd.D)) (30 + k) ρ) ⟨xs, d, hd0, hxs, by omega, rfl⟩ ?_ ?_
    · rintro k ρ hk ⟨xs, d, hd0, hxs, hxl, rfl⟩
      obtain ⟨z, ez, ez'⟩ : ∃ z : Nat, ((k : Int) % 3) = z ∧ z = k % 3 := ⟨k % 3, by push_cast; rfl, rfl⟩
      have h4 : z < gs.length := by omega
      have eg : atI (gs.map Gd.D) (z : Int) = some gs[z].D := by rw [atI_map, atI_nat, List.getElem?_eq_getElem h4]; rfl
      have og := hgs _ (List.getElem_mem h4)
      generalize gs[z] = g at og eg
      have hp := Gd.ptg og
      have hgp : g.D.pure = true := rfl
      have hgf : g.D.frz = g.D := rfl
      simp [TgE, hgl, ez, eg, hgp]
      refine Cr.S_use (hsp d _ (10 ^ 40) 9000 3 60 hd0 hp.1 hp.2 (by omega) (by omega) (by omega) (by omega) (by omega) (by omega)) ?_
      rintro t _ ⟨d, ht, htn, hd0, rfl⟩
      have htp := good_pure ht.g
      simp [htp]
      refine Rx.S_mid (fun fl ρ => fl = .next ∧ TgR w (.lst false (gs.map Gd.D)) xs k ρ) ?_ ?_
      · simp [SS_ifs]
        refine Cr.S_use (hdraw d _ hd0 (by omega) (by omega)) ?_
        rintro _ _ ⟨x, d, rfl, _, _, hd0, rfl⟩
        simp
        refine condK_i (fun _ => ?_) (fun _ => ?_)
        · simp [htp]
          refine Cr.S_use (hsp d _ (10 ^ 40 + 1) 108600 5 63 hd0 ht htn (by omega) (by omega) (by omega) (by omega) (by omega) (by omega)) ?_
          rintro t _ ⟨d, ht, htn, hd0, rfl⟩
          have htp := good_pure ht.g
          simp [htp]
          exact ⟨t, d, hd0, ⟨ht, htn⟩, rfl⟩
        · simp
          exact ⟨t, d, hd0, ⟨ht.mono (by omega) (by omega) (by omega), topN_mono (by omega) _ htn⟩, rfl⟩
      · rintro _ _ ⟨rfl, t, d, hd0, hPT, rfl⟩
        have htp := hPT.pure
        have z3 : xs.length < 16777216 := by omega
        simp [TgE, htp, sizeLine_eq, z3]
        refine ⟨xs ++ [t], d, hd0, fun x hx => ?_, by simp; omega, rfl⟩
        rcases List.mem_append.mp hx with h | h
        · exact hxs x h
        · simp at h; subst h; exact hPT
    · rintro ρ ⟨xs, d, hd0, hxs, hxl, rfl⟩
      have hxp : D.pures xs = true := pures_iff.mpr fun x hx => (hxs x hx).pure
      have hl0 : Th (10 ^ 40) 3000 2 (.int 0) := Th.int (by decide) (by omega)
      simp [TgE, frzs_of_pures hxp]
      refine Cr.S_use (hodd d _ (10 ^ 40) 3000 2 0 hd0 hl0 (by simp only [topN]) (Nat.le_refl _) (by omega) (by omega) (by omega)) ?_
      rintro t _ ⟨d, ht, htn, hd0, rfl⟩
      have htp := good_pure ht.g
      have hw1 := hw.pos
      have z1 : (1 : Int) ≤ w.n := by omega
      have z2 : (w.n : Int) ≤ 1000 := by omega
      have z4 : xs.length + 5 ≤ 16777216 := by omega
      have em : binD .Mult (.tup [.int 0]) (.int w.n) = some (.tup (natsD (List.replicate w.n 0))) := by
        simp [binD, z1, z2, natsD]
      simp [htp, eWn, em, hxp, z4, sizeLine_eq]
      refine ⟨_, d, rfl, fun x hx => ?_, by simp; omega, hd0, rfl⟩
      rcases List.mem_append.mp hx with h | h
      · exact hxs x h
      · have n7 := nats_ok (l := []) (fun x hx => by cases hx) (by simp)
        have n8 := nats_ok (l := [0]) (fun x hx => by simp at hx; omega) (by simp)
        have n9 := nats_ok (l := List.replicate w.n 0) (fun x hx => by have := List.eq_of_mem_replicate hx; omega) (by simp; omega)
        simp only [List.mem_cons, List.not_mem_nil, or_false] at h
        rcases h with rfl | rfl | rfl | rfl | rfl
        · exact ⟨ht.mono (by omega) (by omega) (by omega), topN_mono (by omega) _ htn⟩
        · exact ⟨⟨by simp only [good], by simp only [W]; omega, by simp [D.py, PyData.depth]⟩, by simp only [topN]⟩
        · exact ⟨n7.1.mono (by omega) (by omega) (by omega), topN_mono (by omega) _ n7.2⟩
        · exact (PTg_of (xs := [.tup (natsD []), .tup (natsD [])]) (fun x hx => by
            simp only [List.mem_cons, List.not_mem_nil, or_false, or_self] at hx
            subst hx; exact n7) (by simp)).1.up
        · exact (PTg_of (xs := [.tup (natsD (List.replicate w.n 0)), .tup (natsD [0])]) (fun x hx => by
            simp only [List.mem_cons, List.not_mem_nil, or_false] at hx
            rcases hx with rfl | rfl
            · exact n9
            · exact n8) (by simp)).1.up
end Mini
set_option linter.all false
set_option maxRecDepth 100000
namespace Mini
open PySem L2
/-! S46m: the law. -/
theorem behind_mem {w : Web} {l : List Nat} {k : Nat} {x : Nat} (h : x ∈ behind w l k) (hk : k < l.length) : x ∈ l := by
  unfold behind at h
  rcases List.mem_cons.mp h with rfl | h
  · simp [List.getD, hk]
  · exact List.mem_of_mem_drop (List.mem_filter.mp h).1
theorem behind_nodup {w : Web} {l : List Nat} {k : Nat} (h : l.Nodup) (hk : k < l.length) : (behind w l k).Nodup := by
  unfold behind
  have e : l.drop k = l.getD k 0 :: l.drop (k + 1) := by rw [List.drop_eq_getElem_cons hk]; simp [List.getD, hk]
  have h2 : (l.drop k).Nodup := h.sublist (List.drop_sublist _ _)
  rw [e, List.nodup_cons] at h2
  exact List.nodup_cons.mpr ⟨fun hm => h2.1 (List.mem_filter.mp hm).1, h2.2.filter _⟩
theorem behind_full {w : Web} {l : List Nat} {k : Nat} (h : FreeL w l) (hk : k < l.length) : Full w (behind w l k) := by
  have := h.2 k hk
  have e : l.getD k 0 = l[k] := by simp [List.getD, hk]
  unfold behind Full
  rw [e, List.pairwise_cons]
  refine ⟨fun x hx => ?_, this⟩
  exact mem_rowOf.mp (of_decide_eq_true (List.mem_filter.mp hx).2)
theorem set_full {w : Web} {l s : List Nat} {k : Nat} (hw : w.ok) (h : FreeL w l) (hk : k < l.length) (hs : s.Perm (behind w l k)) (hr : s.Pairwise (· ≤ ·)) : FullL w s := by
  have hln : l.Nodup := h.1.nodup_iff.mpr List.nodup_range
  have hnd : s.Nodup := hs.nodup_iff.mpr (behind_nodup hln hk)
  refine ⟨fun e => ?_, fun x hx => ?_, ?_, ?_⟩
  · rw [e] at hs
    have := hs.length_eq
    simp [behind] at this
  · have := behind_mem (hs.mem_iff.mp hx) hk
    simpa using h.1.mem_iff.mp this
  · exact (hr.and hnd).imp fun {a b} h => by have := h.1; have := h.2; omega
  · rw [← fullU_iff hw hnd]
    have h2 := (fullU_iff hw (behind_nodup hln hk)).mpr (behind_full h hk)
    exact fun i hi k hk => h2 i (hs.mem_iff.mp hi) k (hs.mem_iff.mp hk)
/-- the least colours along a free order from behind are fewer than a greatest set behind -/
theorem greedy_few {w : Web} {l c : List Nat} {m : Nat} (h : FreeL w l) (hc : ∀ k (h : k < l.reverse.length), c.getD l.reverse[k] 0 ≤ ((l.reverse.take k).filter fun x => decide (x ∈ w.nb l.reverse[k])).length) (hm : ∀ k, k < l.length → (behind w l k).length ≤ m) (hcl : c.length = w.n) : ∀ x ∈ c, x < m := by
  intro x hx
  obtain ⟨i, hi, rfl⟩ := List.getElem_of_mem hx
  have hil : i ∈ l := h.1.mem_iff.mpr (List.mem_range.mpr (by omega))
  obtain ⟨j, hj, rfl⟩ := List.getElem_of_mem hil
  have h1 := hc (l.length - 1 - j) (by simp; omega)
  have h2 := hm j hj
  have e1 : l.reverse[l.length - 1 - j]'(by simp; omega) = l[j] := by rw [List.getElem_reverse]; congr 1; omega
  rw [e1] at h1
  have e2 : l.reverse.take (l.length - 1 - j) = (l.drop (j + 1)).reverse := by
    rw [List.take_reverse]
    congr 2
    omega
  rw [e2, List.filter_reverse, List.length_reverse] at h1
  have e3 : c.getD l[j] 0 = c[l[j]] := by simp [List.getD, hi]
  have e4 : l.getD j 0 = l[j] := by simp [List.getD, hj]
  unfold behind at h2
  rw [e4, List.length_cons] at h2
  omega
theorem map_holds {w : Web} {c s : List Nat} {g : Nat → Nat} (hw : w.ok) (hs : FullL w s) (hcl : c.length = w.n) (ha : ∀ i k, w.adj i k → c.getD i 0 ≠ c.getD k 0) (hlt : ∀ x ∈ c, x < s.length) (hi : ∀ x ∈ c, ∀ y ∈ c, g x = g y → x = y) (hg : ∀ M, (∀ x ∈ c, x < M) → ∀ x ∈ c, g x < M) : HoldsL w (c.map g) s := by
  refine ⟨hs, by simpa using hcl, fun x hx => ?_, fun i k hik => ?_⟩
  · obtain ⟨y, hy, rfl⟩ := List.mem_map.mp hx
    exact hg _ hlt y hy
  · have hr := hw.rng i k hik
    have e : ∀ j, (h : j < c.length) → (c.map g).getD j 0 = g c[j] := fun j h => by simp [List.getD, h]
    have e2 : ∀ j, (h : j < c.length) → c.getD j 0 = c[j] := fun j h => by simp [List.getD, h]
    have h1 : i < c.length := by omega
    have h2 : k < c.length := by omega
    have q := ha i k hik
    rw [e2 i h1, e2 k h2] at q
    rw [e i h1, e k h2]
    exact fun z => q (hi _ (List.getElem_mem h1) _ (List.getElem_mem h2) z)
theorem arg_max (f : Nat → Nat) : ∀ n, 0 < n → ∃ k, k < n ∧ ∀ j, j < n → f j ≤ f k
  | 1, _ => ⟨0, by omega, fun j hj => by have : j = 0 := by omega
                                         subst this; exact Nat.le_refl _⟩
  | n + 2, _ => by
    obtain ⟨k, hk, h⟩ := arg_max f (n + 1) (by omega)
    by_cases hn : f k ≤ f (n + 1)
    · refine ⟨n + 1, by omega, fun j hj => ?_⟩
      by_cases e : j = n + 1
      · subst e; exact Nat.le_refl _
      · have := h j (by omega); omega
    · refine ⟨k, by omega, fun j hj => ?_⟩
      by_cases e : j = n + 1
      · subst e; omega
      · exact h j (by omega)
theorem max_lens {ls : List (List Nat)} (h : ls ≠ []) : ∃ M : Nat, b1D .max (.lst true (ls.map fun l => Mini.D.int (l.length : Nat))) = some (.int (M : Nat)) ∧ (∃ l ∈ ls, l.length = M) ∧ ∀ l ∈ ls, l.length ≤ M := by
  obtain ⟨m, h1, h2, h3⟩ := max_nats (c := ls.map List.length) (by simpa using h)
  refine ⟨m, ?_, by simpa using h1, fun l hl => h2 _ (List.mem_map.mpr ⟨l, hl, rfl⟩)⟩
  rw [List.map_map] at h3
  simp only [b1D]
  rw [intsOf_mapf, Option.bind_some]
  have e : (ls.map fun l => ((l.length : Nat) : Int)) = ls.map ((fun k : Nat => (k : Int)) ∘ List.length) := rfl
  rw [e, h3]; rfl
theorem col_bound {w : Web} {o c : List Nat} (ho : o.Perm (List.range w.n)) (hc : c.length = w.n) (h : ∀ k (h : k < o.length), c.getD o[k] 0 ≤ ((o.take k).filter fun x => decide (x ∈ w.nb o[k])).length) (hn : w.n ≤ 100) : ∀ x ∈ c, x < 900 := by
  intro x hx
  obtain ⟨i, hi, rfl⟩ := List.getElem_of_mem hx
  obtain ⟨j, hj, rfl⟩ := List.getElem_of_mem (ho.mem_iff.mpr (List.mem_range.mpr (by omega : i < w.n)))
  have h1 := h j hj
  have h2 := List.length_filter_le (fun x => decide (x ∈ w.nb o[j])) (o.take j)
  have h3 : o.length = w.n := by rw [ho.length_eq, List.length_range]
  have e3 : c.getD o[j] 0 = c[o[j]] := by simp [List.getD, hi]
  simp at h2
  omega
def L6E (ns : List Int) (d : Dk) (o2 o3 o4 o5 o6 o7 o8 o9 o10 o11 : Option Mini.D) : Env := [some (.scr ns), some d.D, o2, o3, o4, o5, o6, o7, o8, o9, o10, o11, none, none]
def L6J (ns : List Int) (ρ : Env) : Prop := ∃ d : Dk, d.ok ∧ ρ = L6E ns d none none none none none none none none none none
theorem law46_ok {Φ : Phi} {f1 f2 f3 f4 f5 f6 f7 f8 f9 f10 f11 f12 : Nat} (hdeck : DeckS (Φ f1)) (hfree : FreeWebS (Φ f2)) (hweb : WebS (Φ f3)) (hsets : SetsS (Φ f4)) (hdraw : DrawS (Φ f5)) (hgr : GreedyS (Φ f6)) (hex : ExchS (Φ f7)) (hho : HoldsS (Φ f8)) (hany : AnyS (Φ f9)) (htu : TurnedS (Φ f10)) (hth : ThingsS (Φ f11)) (hto : Told6S (Φ f12)) :
    LawS (rF Φ (f_law_k46 f1 f2 f3 f4 f5 f6 f7 f8 f9 f10 f11 f12)) := by
  intro ns hns
  refine S_def rfl ?_
  have hWp : ∀ w : Web, w.D.pure = true := fun _ => rfl
  have hWf : ∀ w : Web, w.D.frz = w.D := fun _ => rfl
  have eWn : ∀ w : Web, ixD w.D (.int 0) = some (.int w.n) := fun _ => rfl
  simp [f_law_k46, CF.start]
  refine Cr.S_use (hdeck ns hns) ?_
  rintro _ _ ⟨d, rfl, hd0, rfl⟩
  simp
  refine forX_range 0 _ (fun _ ρ => L6J ns ρ) ⟨d, hd0, rfl⟩ ?_ ?_
  · rintro i ρ hi ⟨d, hd0, rfl⟩
    simp [L6E]
    refine Cr.S_use (hfree d 24 hd0 (by omega) (by omega)) ?_
    rintro _ _ ⟨w, l, d, rfl, hw, hwn, hl, hd0, rfl⟩
    simp
    refine Cr.S_use (hweb d 24 hd0 (by omega) (by omega)) ?_
    rintro _ _ ⟨w2, d, rfl, hw2, hwn2, hd0, rfl⟩
    have hlp := hl.1
    have hll : l.length = w.n := by rw [hlp.length_eq, List.length_range]
    simp [hWp, hWf]
    refine Cr.S_use (hsets w l hw hlp) ?_
    rintro _ _ ⟨ls, rfl, hls0, hls1, hls2, rfl⟩
    have hlsl : ls.length < 16777216 := by omega
    have hw1 := hw.pos
    obtain ⟨k0, hk0, hk0m⟩ := arg_max (fun k => (behind w l k).length) l.length (by omega)
    obtain ⟨lm, hlm, hlmp⟩ := hls2 k0 hk0 hk0m
    have hne : ls ≠ [] := fun e => by rw [e] at hlm; cases hlm
    obtain ⟨M, eM, ⟨l0, hl0, hl0M⟩, hM⟩ := max_lens hne
    simp [sizeLine_eq, hlsl]
    refine lcX_pure (fun l => Mini.D.tup (natsD l)) (fun l => decide (l.length = M)) (fun l => .tup (natsD l)) ls (fun x hx => ?_) ?_
    · simp [sizeLine_eq, hlsl]
      refine lcX_map (fun l => Mini.D.tup (natsD l)) (fun l => .int (l.length : Nat)) ls (fun x hx => by simp) ?_
      generalize (ls.map fun l => Mini.D.int (l.length : Nat)) = ys at eM
      simp [eM, Int.natCast_inj]
      refine condK_i (fun h => ?_) (fun h => ?_) <;> simp
    · have hms : ∀ s ∈ ls.filter (fun l => decide (l.length = M)), s.length = M ∧ s ∈ ls := fun s hs => ⟨of_decide_eq_true (List.mem_filter.mp hs).2, (List.mem_filter.mp hs).1⟩
      have hml : 0 < (ls.filter (fun l => decide (l.length = M))).length := List.length_pos_iff.mpr fun e => by
        have : l0 ∈ ls.filter (fun l => decide (l.length = M)) := List.mem_filter.mpr ⟨hl0, decide_eq_true hl0M⟩
        rw [e] at this; cases this
      have hml2 := List.length_filter_le (fun l => decide (l.length = M)) ls
      generalize ls.filter (fun l => decide (l.length = M)) = ms at hms hml hml2
      have er : (natsD l).reverse = natsD l.reverse := by simp [natsD]
      have hlr : l.reverse.Perm (List.range w.n) := (List.reverse_perm l).trans hlp
      simp [hWp, hWf, er]
      refine Cr.S_use (hgr w l.reverse hw hlr) ?_
      rintro _ _ ⟨c, rfl, hc1, hc2, hc3, rfl⟩
      have hMk : ∀ k, k < l.length → (behind w l k).length ≤ M := fun k hk => by
        have h1 := hk0m k hk
        have h2 := hM lm hlm
        rw [hlmp.length_eq] at h2
        omega
      have hcM := greedy_few hl hc3 hMk hc1
      have hMn : M ≤ w.n := by
        obtain ⟨k, hk, hp, _⟩ := hls1 l0 hl0
        have h2 := (behind_nodup (w := w) (hlp.nodup_iff.mpr List.nodup_range) hk).length_le_of_subset fun x hx => behind_mem hx hk
        rw [← hp.length_eq] at h2
        omega
      simp
      refine Cr.S_use (hex d c hd0 (fun e => by rw [e] at hc1; simp at hc1; omega) (by omega) (fun x hx => by have := hcM x hx; omega)) ?_
      rintro _ _ ⟨g, d, rfl, hg1, hg2, hd0, rfl⟩
      simp
      refine Cr.S_use (hdraw d _ hd0 (by omega) (by omega)) ?_
      rintro _ _ ⟨j, d, rfl, j1, j2, hd0, rfl⟩
      obtain ⟨j, rfl⟩ := Int.eq_ofNat_of_zero_le j1
      have hj : j < ms.length := by omega
      have ej : atI (ms.map fun l => Mini.D.tup (natsD l)) (j : Int) = some (.tup (natsD ms[j])) := by rw [atI_map, atI_nat, List.getElem?_eq_getElem hj]; rfl
      obtain ⟨hs1, hs2⟩ := hms _ (List.getElem_mem hj)
      generalize ms[j] = s at ej hs1 hs2
      obtain ⟨k, hk, hsp, hsr⟩ := hls1 s hs2
      have hsf := set_full hw hl hk hsp hsr
      have hH := map_holds hw hsf hc1 hc2 (fun x hx => by rw [hs1]; exact hcM x hx) hg1 hg2
      have og : Gd.ok ⟨c.map g, s⟩ := ⟨fun x hx => by
        have := hH.2.2.1 x hx; omega, fun x hx => by have := hsf.2.1 x hx; omega, by simp; omega, by simp; omega⟩
      simp [ej, SS_ifs, hWp, hWf]
      refine Cr.S_use (hho w _ hw ((Gd.ptg og).1.thing2 (Gd.ptg og).2 (by omega))) ?_
      rintro _ _ ⟨b, rfl, hb, rfl⟩
      have hbt : b = true := hb.mpr (HoldsOf_iff.mpr hH)
      subst hbt
      simp [eWn]
      refine Cr.S_use (htu d w2.n hd0 (by omega)) ?_
      rintro _ _ ⟨p2, d, rfl, hp2, hd0, rfl⟩
      have ep : ∀ p : List Nat, (p.map fun i : Nat => Mini.D.int i) = natsD p := fun _ => rfl
      simp [ep, hWp, hWf]
      refine Cr.S_use (hgr w2 p2 hw2 hp2) ?_
      rintro _ _ ⟨c2, rfl, hc21, _, hc23, rfl⟩
      simp [hWp, hWf]
      refine Cr.S_use (hany d w2 hd0 hw2 (by omega)) ?_
      rintro _ _ ⟨s2, d, rfl, hs21, hs22, hd0, rfl⟩
      simp [eWn]
      refine Cr.S_use (htu d w.n hd0 (by omega)) ?_
      rintro _ _ ⟨p3, d, rfl, hp3, hd0, rfl⟩
      simp [ep, hWp, hWf]
      refine Cr.S_use (hgr w p3 hw hp3) ?_
      rintro _ _ ⟨c3, rfl, hc31, _, hc33, rfl⟩
      simp [hWp, hWf]
      refine Cr.S_use (hany d w hd0 hw (by omega)) ?_
      rintro _ _ ⟨s3, d, rfl, hs31, hs32, hd0, rfl⟩
      have o2 : Gd.ok ⟨c2, s2⟩ := ⟨col_bound hp2 hc21 hc23 (by omega), fun x hx => by have := hs21 x hx; omega, by simp; omega, by simp; omega⟩
      have o3 : Gd.ok ⟨c3, s3⟩ := ⟨col_bound hp3 hc31 hc33 (by omega), fun x hx => by have := hs31 x hx; omega, by simp; omega, by simp; omega⟩
      simp [hWp, hWf]
      have eG : [Mini.D.tup [D.tup (natsD (List.map g c)), D.tup (natsD s)], D.tup [D.tup (natsD c3), D.tup (natsD s3)], D.tup [D.tup (natsD c2), D.tup (natsD s2)]] = [(⟨c.map g, s⟩ : Gd), ⟨c3, s3⟩, ⟨c2, s2⟩].map Gd.D := rfl
      rw [eG]
      refine Cr.S_use (hth d w _ hd0 hw (by omega) (fun x hx => ?_) rfl) ?_
      · simp only [List.mem_cons, List.not_mem_nil, or_false] at hx
        rcases hx with rfl | rfl | rfl
        · exact og
        · exact o3
        · exact o2
      rintro _ _ ⟨xs, d, rfl, hxs, hxl, hd0, rfl⟩
      have hxp : D.pures xs = true := pures_iff.mpr fun x hx => (hxs x hx).pure
      simp
      generalize hd4 : Mini.D.tup (ls.map fun l => .tup (natsD l)) = d4
      generalize hd5 : Mini.D.lst false (ms.map fun l => .tup (natsD l)) = d5
      generalize hd6 : Mini.D.tup [D.tup (natsD (List.map g c)), D.tup (natsD s)] = d6
      generalize hd7 : Mini.D.tup [D.tup (natsD c2), D.tup (natsD s2)] = d7
      generalize hd8 : Mini.D.tup [D.tup (natsD c3), D.tup (natsD s3)] = d8
      refine forX_rest (fun ys ρ => (∀ y ∈ ys, PT2 y) ∧ ρ = L6E ns d (some (.int i)) (some w2.D) (some d4) (some d5) (some d6) (some d7) (some d8) none (some w.D) (some (.tup (natsD l)))) _ _ ⟨hxs, rfl⟩ ?_ ?_
      · rintro y r ρ ⟨hy, rfl⟩
        have hPy := hy y (by simp)
        have hyp := hPy.pure
        have told : ∀ w : Web, w.ok → (Φ f12 [w.D, y]).S (fun r o => r = .bl true ∧ o = []) noX := fun w hw => hto w y _ _ _ _ hw hPy.1 hPy.2 (by omega) (by decide) (by omega) (by omega)
        simp [L6E, hyp, SS_ifs, hWp, hWf]
        refine Cr.S_use (told w hw) ?_
        rintro _ _ ⟨rfl, rfl⟩
        simp [hyp, hWp, hWf]
        refine Cr.S_use (told w2 hw2) ?_
        rintro _ _ ⟨rfl, rfl⟩
        simp [hyp, hWp, hWf]
        refine Cr.S_use (told w hw) ?_
        rintro _ _ ⟨rfl, rfl⟩
        simp
        exact fun z h => hy z (by simp [h])
      · rintro ρ ⟨_, rfl⟩
        simp [L6E]
        exact ⟨d, hd0, rfl⟩
  · rintro ρ ⟨d, hd0, rfl⟩
    simp [L6E]
end Mini
set_option linter.all false
set_option maxRecDepth 100000
namespace Mini
namespace k46
open PySem L2
theorem c_law_deck_l (n : Nat) : DeckS (phi prog (n + 1) 7) := by
  rw [phi_run (n := n + 0) (c := f_law_deck) rfl]
  exact deck_ok
theorem c_law_draw_l (n : Nat) : DrawS (phi prog (n + 1) 8) := by
  rw [phi_run (n := n + 0) (c := f_law_draw) rfl]
  exact draw_ok
theorem c_law_turned_l (n : Nat) : TurnedS (phi prog (n + 2) 9) := by
  rw [phi_run (n := n + 1) (c := f_law_turned 8) rfl]
  exact turned_ok (c_law_draw_l (n + 0))
theorem c_law_web_of_l (n : Nat) : WebOfS (phi prog (n + 1) 11) := by
  rw [phi_run (n := n + 0) (c := f_law_web_of) rfl]
  exact webOf_ok
theorem c_law_free_web_l (n : Nat) : FreeWebS (phi prog (n + 3) 17) := by
  rw [phi_run (n := n + 2) (c := f_law_free_web 8 9 11) rfl]
  exact freeWeb_ok (c_law_draw_l (n + 1)) (c_law_turned_l (n + 0)) (c_law_web_of_l (n + 1))
theorem c_law_shape_l (n : Nat) : ShapeS (phi prog (n + 2) 10) := by
  rw [phi_run (n := n + 1) (c := f_law_shape 8) rfl]
  exact shape_ok (c_law_draw_l (n + 0))
theorem c_law_web_l (n : Nat) : WebS (phi prog (n + 3) 12) := by
  rw [phi_run (n := n + 2) (c := f_law_web 8 9 10 11) rfl]
  exact web_ok (c_law_draw_l (n + 1)) (c_law_turned_l (n + 0)) (c_law_shape_l (n + 0)) (c_law_web_of_l (n + 1))
theorem c_law_near_l (n : Nat) : NearOS (phi prog (n + 1) 13) := by
  rw [phi_run (n := n + 0) (c := f_law_near_k46) rfl]
  exact nearO_ok
theorem c_law_sets_by_l (n : Nat) : SetsS (phi prog (n + 2) 18) := by
  rw [phi_run (n := n + 1) (c := f_law_sets_by 13) rfl]
  exact sets_ok (c_law_near_l (n + 0))
theorem c_law_greedy_l (n : Nat) : GreedyS (phi prog (n + 2) 22) := by
  rw [phi_run (n := n + 1) (c := f_law_greedy 13) rfl]
  exact greedy_ok (c_law_near_l (n + 0))
theorem c_law_exchanged_l (n : Nat) : ExchS (phi prog (n + 3) 23) := by
  rw [phi_run (n := n + 2) (c := f_law_exchanged 9) rfl]
  exact exch_ok (c_law_turned_l (n + 0))
theorem c_neighbour_rows (n : Nat) : NbrsS (phi prog (n + 1) 1) := by
  rw [phi_run (n := n + 0) (c := f_neighbour_rows) rfl]
  exact nbrs_ok
theorem c_is_whole (n : Nat) : WholeS (phi prog (n + 1) 0) := by
  rw [phi_run (n := n + 0) (c := f_is_whole) rfl]
  exact whole_ok
theorem c_are_colours (n : Nat) : AreColsS (phi prog (n + 2) 4) := by
  rw [phi_run (n := n + 1) (c := f_are_colours 0) rfl]
  exact areCols_ok (c_is_whole (n + 0))
theorem c_are_places (n : Nat) : ArePlS (phi prog (n + 2) 3) := by
  rw [phi_run (n := n + 1) (c := f_are_places 0) rfl]
  exact arePl_ok (c_is_whole (n + 0))
theorem c_are_full (n : Nat) : AreFullS (phi prog (n + 1) 2) := by
  rw [phi_run (n := n + 0) (c := f_are_full) rfl]
  exact areFull_ok
theorem c_is_full_set (n : Nat) : IsFullS (phi prog (n + 3) 5) := by
  rw [phi_run (n := n + 2) (c := f_is_full_set 3 2) rfl]
  exact isFull_ok (c_are_places (n + 0)) (c_are_full (n + 1))
theorem c_coloured_holds (n : Nat) : HoldsS (phi prog (n + 4) 6) := by
  rw [phi_run (n := n + 3) (c := f_coloured_holds 1 4 5) rfl]
  exact holds_ok (c_neighbour_rows (n + 2)) (c_are_colours (n + 1)) (c_is_full_set (n + 0))
theorem c_law_any_set_l (n : Nat) : AnyS (phi prog (n + 3) 24) := by
  rw [phi_run (n := n + 2) (c := f_law_any_set 13 9) rfl]
  exact any_ok (c_law_near_l (n + 1)) (c_law_turned_l (n + 0))
theorem c_law_odd_l (n : Nat) : OddS (phi prog (n + 2) 20) := by
  rw [phi_run (n := n + 1) (c := f_law_odd 8) rfl]
  exact odd_ok (c_law_draw_l (n + 0))
theorem c_law_spoilt_l : ∀ (K n : Nat), SpoiltS K (phi prog (n + K + 2) 21)
  | 0, n => spoilt_zero
  | K + 1, n => by
    rw [show n + (K + 1) + 2 = (n + K + 2) + 1 by omega, phi_run (c := f_law_spoilt 8 21 20) rfl]
    exact spoilt_succ (c_law_draw_l (n + K + 1)) (c_law_odd_l (n + K + 0)) (c_law_spoilt_l K n)
theorem c_law_things_l (n : Nat) : ThingsS (phi prog (n + 9) 26) := by
  rw [phi_run (n := n + 8) (c := f_law_things 21 8 20) rfl]
  exact things_ok (c_law_spoilt_l 6 (n + 0)) (c_law_draw_l (n + 7)) (c_law_odd_l (n + 6))
theorem c_law_whole_l (n : Nat) : WholeS (phi prog (n + 1) 15) := by
  rw [phi_run (n := n + 0) (c := f_law_whole) rfl]
  exact lwhole_ok
theorem c_law_are_places_l (n : Nat) : ArePlS (phi prog (n + 2) 16) := by
  rw [phi_run (n := n + 1) (c := f_law_are_places 15) rfl]
  exact larePl_ok (c_law_whole_l (n + 0))
theorem c_law_are_near_l (n : Nat) : AreNearS (phi prog (n + 1) 14) := by
  rw [phi_run (n := n + 0) (c := f_law_are_near) rfl]
  exact areNear_ok
theorem c_law_is_coloured_l (n : Nat) : LHoldsS (phi prog (n + 3) 19) := by
  rw [phi_run (n := n + 2) (c := f_law_is_coloured 16 15 13 14) rfl]
  exact lholds_ok (c_law_are_places_l (n + 0)) (c_law_whole_l (n + 1)) (c_law_near_l (n + 1)) (c_law_are_near_l (n + 1))
theorem c_law_told_l (n : Nat) : Told6S (phi prog (n + 5) 25) := by
  rw [phi_run (n := n + 4) (c := f_law_told_k46 6 19) rfl]
  exact told6_ok (c_coloured_holds (n + 0)) (c_law_is_coloured_l (n + 1))
theorem c_law (n : Nat) : LawS (phi prog (n + 10) 27) := by
  rw [phi_run (n := n + 9) (c := f_law_k46 7 17 12 18 8 22 23 6 24 9 26 25) rfl]
  exact law46_ok (c_law_deck_l (n + 8)) (c_law_free_web_l (n + 6)) (c_law_web_l (n + 6)) (c_law_sets_by_l (n + 7)) (c_law_draw_l (n + 8)) (c_law_greedy_l (n + 7)) (c_law_exchanged_l (n + 6)) (c_coloured_holds (n + 5)) (c_law_any_set_l (n + 6)) (c_law_turned_l (n + 7)) (c_law_things_l (n + 0)) (c_law_told_l (n + 4))
theorem plain (ns : List Int) (h : ns.length ≤ 63) : phi (pt.map (·.1)) 10 27 [.scr ns] = .ok (.bl true) [] := lawS_eq (c_law 0) ns h
end k46
end Mini
set_option Elab.async false
set_option linter.all false
set_option maxRecDepth 100000
set_option maxHeartbeats 0
namespace Mini
namespace k46
open PySem PySem.Spec PyProof.Rows L2
abbrev PW : Program := PySem.Challenge.pw_fewfilled_k46_colours_of_any_hand
def fn : List He.DefD := fnL PW pt
def fa : List He.Fa := faL pt cs
abbrev R : PySem.W.OpenRow := PySem.W.OpenLaw.row PySem.Challenge.rw_fewfilled_k46_colours_of_any_hand
abbrev hk : PySem.W.Hook := hookM 4 fa fn
def ob (s : PySem.W.SharedT) : He.AlD × Bool := obM 4 fa fn (HandSHeadRun.getT s)
theorem ob_eq (s : PySem.W.SharedT) : ob s = hk.obs s.abs := obM_eq (HandSHeadRun.getT_eq s)
def names : List PySem.Str := (["is_whole", "neighbour_rows", "are_full", "are_places", "are_colours", "is_full_set", "coloured_holds", "_law_deck", "_law_draw", "_law_turned", "_law_shape", "_law_web_of", "_law_web", "_law_near", "_law_are_near", "_law_whole", "_law_are_places", "_law_free_web", "_law_sets_by", "_law_is_coloured", "_law_odd", "_law_spoilt", "_law_greedy", "_law_exchanged", "_law_any_set", "_law_told", "_law_things"] : List PySem.Str)
theorem run (w : World) : HandSHeadRun.RunEq R (PySem.W.view R.prog [32]) hk ob 4000 names w := by
  intro os
  kernel_rfl
theorem checked : chkAll PW pt cs = true := by decide +kernel
theorem bindp : ∀ p ∈ pt, BindP (mkD PW p.1 p.2) := by
  intro p hp
  simp only [pt, List.mem_cons, List.not_mem_nil, or_false] at hp
  rcases hp with rfl | rfl | rfl | rfl | rfl | rfl | rfl | rfl | rfl | rfl | rfl | rfl | rfl | rfl | rfl | rfl | rfl | rfl | rfl | rfl | rfl | rfl | rfl | rfl | rfl | rfl | rfl | rfl <;> (first | (intro kV doc pm an cdv ct us hl; exact match us, hl with | [_], _ => rfl) | (intro kV doc pm an cdv ct us hl; exact match us, hl with | [_, _], _ => rfl) | (intro kV doc pm an cdv ct us hl; exact match us, hl with | [_, _, _], _ => rfl) | (intro kV doc pm an cdv ct us hl; exact match us, hl with | [_, _, _, _], _ => rfl) | (intro kV doc pm an cdv ct us hl; exact match us, hl with | [_, _, _, _, _], _ => rfl) | (intro kV doc pm an cdv ct us hl; exact match us, hl with | [_, _, _, _, _, _], _ => rfl))
end k46
end Mini
open PySem PySem.W PySem.Calls PyProof.Rows
set_option maxRecDepth 100000 in
set_option maxHeartbeats 0 in
theorem PySem.Challenge.cw_fewfilled_k46_colours_of_any_hand_holds : PySem.Challenge.rw_fewfilled_k46_colours_of_any_hand.Holds := by
  w_on; o_law
  refine HandSHeadRun.head_any (r := OpenLaw.row PySem.Challenge.rw_fewfilled_k46_colours_of_any_hand) (q := view (OpenLaw.row PySem.Challenge.rw_fewfilled_k46_colours_of_any_hand).prog [32]) (H := Mini.k46.hk) (ob := Mini.k46.ob) (M := 4000) (loose := Mini.k46.names) (d := HandSHeadRun.topDef (OpenLaw.row PySem.Challenge.rw_fewfilled_k46_colours_of_any_hand).prog 32) (kwd := []) Mini.k46.ob_eq
    (by kernel_rfl) (fun s => by kernel_rfl) Mini.k46.run (by kernel_rfl) (by kernel_rfl) (by kernel_rfl) (by rfl) (by first | assumption | decide +kernel) (by decide +kernel) ⟨rfl, rfl, rfl, rfl, rfl, by decide +kernel⟩ ?hw ?hc
  case hw => w_witness2
  case hc =>
    refine Mini.walkG (l := PySem.Challenge.rw_fewfilled_k46_colours_of_any_hand) (n := 63) (k := 10) (x := "script") rfl (by decide) (by kernel_rfl) ⟨rfl, by decide, by decide⟩ ?F
    intro w mg fa h Y G hmg0
    have hmg : mg ("law" : PySem.Str) = some (.ref fa) := by
      have e : (HandSHeadRun.topDef (OpenLaw.row PySem.Challenge.rw_fewfilled_k46_colours_of_any_hand).prog 32).name = ("law" : PySem.Str) := by kernel_rfl
      rw [← e]
      exact hmg0
    exact Mini.law_fin (P := (PySem.Challenge.rw_fewfilled_k46_colours_of_any_hand).prog) (w := w) (f := 27) Y G hmg Mini.k46.bindp Mini.k46.checked rfl rfl rfl rfl Mini.k46.plain
