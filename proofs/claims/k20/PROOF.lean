import PyProof.Rows.All
import KE.SortData
import KE.DataMinMax
import Wide.All
import OpenK.AllK
import Wide.FinOn
import HandS.ForMost
import HandS.Walk
import HandS.WordsExc
import HandS.ExcOwn
import HandS.TryOnly
import HandS.Style
import HandS.TupAny
import HandS.Zip
import HandS.IsInst
import HandS.Flow
import HandS.Small
import HandS.DictComp
import HandS.Wide
import PyProof.AutoSeq1
import PyProof.ListOps
import HandS.SortInts
import HandS.SetFor
import HandS.Strs
import KE.GoesZip
import KE.GoesMore
import HandS.NoneIn
import HandS.Comp
import HandS.Exc
import KE.GoesComp
import PySem.Challenge.RW_proofhouse_k20_whole_path_orders
set_option Elab.async false
set_option linter.all false
set_option maxRecDepth 100000
set_option maxHeartbeats 8000000
set_option autoImplicit false
section
set_option Elab.async false
set_option maxRecDepth 10000
/-! PfA: a small interpreter of our own for the part of the language that the program uses.
Tuples, numbers and texts are values; lists, dicts, sets and instances stand in a store, by their number. -/
namespace PF
open PySem

inductive T where
  | non | bl (b : Bool) | int (i : Int) | str (s : Str) | tup (l : List T) | rol (l : List T) | ctp (l : List T) | rod (kvs : List (T × T)) | ref (n : Nat) | fn (n : Nat)
  deriving Inhabited

inductive Cell where
  | lst (xs : List T) | dic (kvs : List (T × T)) | ins (c : Nat) (fs : List (Str × T)) | dead
  deriving Inhabited
abbrev Store := List Cell
abbrev Sl := List (Option T)

structure Ex where
  cls : Nat
  fs : List (Str × T)

inductive R (α : Type) where
  | ok (a : α) (st : Store) | exc (x : Ex) (st : Store) | stuck
def R.bind {α β : Type} : R α → (α → Store → R β) → R β
  | .ok a st, f => f a st
  | .exc x st, _ => .exc x st
  | .stuck, _ => .stuck
theorem R.bind_ok {α β : Type} {a : α} {st : Store} {f : α → Store → R β} : (R.ok a st).bind f = f a st := rfl
theorem R.bind_exc {α β : Type} {x : Ex} {st : Store} {f : α → Store → R β} : (R.exc x st : R α).bind f = .exc x st := rfl
theorem R.bind_stuck {α β : Type} {f : α → Store → R β} : (R.stuck : R α).bind f = .stuck := rfl

/-- how a statement ends -/
inductive RS where
  | nx (sl : Sl) (st : Store) | rt (t : T) (st : Store) | bk (sl : Sl) (st : Store) | ct (sl : Sl) (st : Store) | xc (x : Ex) (sl : Sl) (st : Store) | stuck
def RS.seq : RS → (Sl → Store → RS) → RS
  | .nx sl st, f => f sl st
  | r, _ => r
def RS.noXc : RS → RS
  | .xc _ _ _ => .stuck
  | r => r
/-- a value, then a statement's end; an exception leaves with the slots -/
def R.thenS {α : Type} (sl : Sl) : R α → (α → Store → RS) → RS
  | .ok a st, f => f a st
  | .exc x st, _ => .xc x sl st
  | .stuck, _ => .stuck
theorem R.thenS_ok {α : Type} {sl : Sl} {a : α} {st : Store} {f : α → Store → RS} : (R.ok a st).thenS sl f = f a st := rfl

/-! ### the code -/
inductive Ty where
  | int | bool | str | tuple | list | dict
  deriving DecidableEq
inductive B where
  | len | abs | int | tuple | list | listM | sum | all | any | min1 | max1 | min2 | max2 | sorted | repr | isi (t : Ty) | dict | dictM | sset
  deriving DecidableEq
inductive M where
  | append | get | extend | pop | items | find | index | add | update | setdefault
  deriving DecidableEq
mutual
inductive E where
  | var (i : Nat) | cst (t : T) | glb (x : Nat)
  | tup (es : Es) | ctp (es : Es) | lst (m : Bool) (es : Es) | dct (m : Bool) (kvs : KVs) | fz (e : E) | rep (m : Bool) (e k : E)
  | bin (op : Operator) (a b : E) | neg (a : E)
  | cmp (op : CmpOp) (a b : E) | chn (op op' : CmpOp) (a b c : E)
  | and (a b : E) | or (a b : E) | not (a : E) | ite (c a b : E)
  | call (f : Nat) (es : Es) | make (c : Nat) (es : Es)
  | bcall (b : B) (es : Es) | mcall (m : M) (o : E) (es : Es) | own (m : Str) (o : E) (es : Es)
  | fld (o : E) (f : Str) | ix (a i : E) | slc (a : E) (lo hi : Eo) | rev (a : E)
  | comp (m : Bool) (tg : Tg) (it : It) (c : Eo) (e : E) (own : List Nat)
  | compx (tg : Tg) (it : It) (c : Eo) (e : E) (own : List Nat)
  | comp2 (m : Bool) (tg : Tg) (it : It) (c : Eo) (tg1 : Tg) (it1 : It) (c1 : Eo) (e : E) (own own1 : List Nat)
  | dcomp (m : Bool) (tg : Tg) (it : It) (c : Eo) (k v : E) (own : List Nat)
inductive Es where
  | nil | cons (e : E) (es : Es)
inductive KVs where
  | nil | cons (k v : E) (r : KVs)
inductive Eo where
  | none | some (e : E)
inductive It where
  | val (e : E) | range (es : Es) | enum (e : E) | zip (a b : E)
inductive Tg where
  | nm (i : Nat) | tup (ts : Tgs) | sub (o i : E) | fld (o : E) (f : Str)
inductive Tgs where
  | nil | cons (t : Tg) (ts : Tgs)
end
mutual
inductive S where
  | asg (tg : Tg) (e : E) | par (i j : Nat) (a b : E) | aug (i : Nat) (op : Operator) (e : E) | augF (o : E) (f : Str) (op : Operator) (e : E)
  | expr (e : E) | ret (e : E) | retN | pass | brk | cnt
  | ifS (c : E) (a b : Ss) | whl (c : E) (b : Ss) | for (tg : Tg) (it : It) (b : Ss)
  | raise (c : Nat) (es : Es) | fz (i : Nat)
  | tryS (b : Ss) (c : Nat) (as : Option Nat) (h : Ss)
inductive Ss where
  | nil | cons (s : S) (ss : Ss)
end

/-! ### operations on values -/
mutual
def toD : T → Option PyData
  | .non => some .none
  | .bl b => some (.bool b)
  | .int i => some (.int i)
  | .str s => some (.str s)
  | .tup l => (toDs l).map .tuple
  | .rol l => (toDs l).map .list
  | .ctp _ => none
  | .rod _ => none
  | .ref _ => none
  | .fn _ => none
def toDs : List T → Option (List PyData)
  | [] => some []
  | t :: ts => match toD t, toDs ts with
    | some d, some ds => some (d :: ds)
    | _, _ => none
end
/-- the data at a value: a list of values is looked up in the store -/
def resD (st : Store) : T → Option PyData
  | .ref n => match st[n]? with
    | some (.lst xs) => (toDs xs).map .list
    | _ => none
  | t => toD t
/-- Python's == -/
def eqT (st : Store) (a b : T) : Option Bool :=
  match resD st a, resD st b with
  | some d, some e => if min d.depth e.depth ≤ 190 then some (d.eqv e) else none
  | _, _ => none
def isFlat : T → Bool
  | .non | .bl _ | .int _ | .str _ => true
  | _ => false
/-- x in xs, for values that are none, numbers, texts -/
def eqF (a b : T) : Bool := match toD a, toD b with
  | some d, some e => d.eqv e
  | _, _ => false
/-- the items of a list or tuple -/
def seqOf (st : Store) : T → Option (List T)
  | .tup xs => some xs
  | .ctp xs => some xs
  | .rol xs => some xs
  | .ref n => match st[n]? with
    | some (.lst xs) => some xs
    | _ => none
  | _ => none
/-- .. of a list alone -/
def lstOf (st : Store) : T → Option (List T)
  | .rol xs => some xs
  | .ref n => match st[n]? with
    | some (.lst xs) => some xs
    | _ => none
  | _ => none
/-- the pairs of a dict -/
def mapOf (st : Store) : T → Option (List (T × T))
  | .rod kvs => some kvs
  | .ref n => match st[n]? with
    | some (.dic kvs) => some kvs
    | _ => none
  | _ => none

def tru (st : Store) : T → Option Bool
  | .non => some false
  | .bl b => some b
  | .int i => some (i != 0)
  | .str s => if s.length ≤ sizeLine then some ((s.length : Int) != 0) else none
  | .tup l => some (!l.isEmpty)
  | .rol l => some (!l.isEmpty)
  | .ctp _ => none
  | .rod _ => none
  | .ref n => match st[n]? with
    | some (.lst xs) => some (!xs.isEmpty)
    | some (.dic kvs) => some (!kvs.isEmpty)
    | _ => none
  | .fn _ => none

def R.ofOpt {α : Type} (st : Store) : Option α → R α
  | some a => .ok a st
  | none => .stuck
theorem R.ofOpt_some {α : Type} {st : Store} {a : α} : R.ofOpt st (some a) = .ok a st := rfl
/-- a new cell -/
def alloc (st : Store) (c : Cell) : R T := .ok (.ref st.length) (st ++ [c])
/-- a new list: a cell, or never written again -/
def newL (m : Bool) (xs : List T) (st : Store) : R T := if m then alloc st (.lst xs) else .ok (.rol xs) st
def newD (m : Bool) (kvs : List (T × T)) (st : Store) : R T := if m then alloc st (.dic kvs) else .ok (.rod kvs) st

/-- |i| < k; told so that the kernel never counts -/
def inS (k : Nat) : Int → Bool
  | .ofNat n => n.blt k
  | .negSucc n => (n + 1).blt k
theorem inS_iff {k : Nat} {i : Int} : inS k i = true ↔ -(k : Int) < i ∧ i < k := by
  cases i with
  | ofNat n => simp only [inS, Nat.blt_eq, Int.ofNat_eq_natCast]; omega
  | negSucc n => simp only [inS, Nat.blt_eq]; omega
def P64 : Nat := 18446744073709551616
def P62 : Nat := 4611686018427387904
def P30 : Nat := 1073741824
def mulOk (i j : Int) : Bool := inS P64 i || inS P64 j || (i.natAbs.log2 + j.natAbs.log2).blt 1000000
def binT (op : Operator) (a b : T) (st : Store) : R T :=
  match op, a, b with
  | .Add, .int i, .int j => .ok (.int (i + j)) st
  | .Sub, .int i, .int j => .ok (.int (i - j)) st
  | .Mult, .int i, .int j => if mulOk i j then .ok (.int (i * j)) st else .stuck
  | .FloorDiv, .int i, .int j => if 0 < j ∧ inS P30 j = true then .ok (.int (i / j)) st else if j ≠ 0 ∧ j.natAbs.log2.blt 9000 = true then .ok (.int (i.fdiv j)) st else .stuck
  | .Mod, .int i, .int j => if 0 < j then .ok (.int (i % j)) st else .stuck
  | .Add, .str x, .str y => if x.length + y.length ≤ sizeLine then .ok (.str (x ++ y)) st else .stuck
  | .Add, .tup x, .tup y => if x.length + y.length ≤ sizeLine then .ok (.tup (x ++ y)) st else .stuck
  | .Add, x, y => match lstOf st x, lstOf st y with
    | some x, some y => if x.length + y.length ≤ sizeLine then .ok (.rol (x ++ y)) st else .stuck
    | _, _ => .stuck
  | _, _, _ => .stuck
/-- the first pair with this key (ints and texts) -/
def keyEq : T → T → Bool
  | .int i, .int j => decide (i = j)
  | .str x, .str y => decide (x = y)
  | _, _ => false
def isKey : T → Bool
  | .int _ | .str _ => true
  | _ => false
def dLook (k : T) : List (T × T) → Option T
  | [] => none
  | (a, v) :: r => if keyEq k a then some v else dLook k r
def dPut (k v : T) (kvs : List (T × T)) : List (T × T) :=
  if kvs.any (fun p => keyEq k p.1) then kvs.map (fun p => if keyEq k p.1 then (p.1, v) else p) else kvs ++ [(k, v)]
/-- how deep an item may be in x in xs -/
def inOk : T → Option PyData := toD
/-- x in y, for a list, tuple, dict -/
def inT (a b : T) (st : Store) : Option Bool :=
  match seqOf st b with
  | some xs => if isFlat a && xs.all isFlat then some (xs.any fun y => eqF y a) else
      match toD a, toDs xs with
      | some d, some ds => if min (PyData.depthAll ds) d.depth ≤ 180 then some (ds.any fun z => PyData.eqv z d) else none
      | _, _ => none
  | none => match mapOf st b with
    | some kvs => if isKey a then some (dLook a kvs).isSome else none
    | none => none
def cmpT (op : CmpOp) (a b : T) (st : Store) : Option Bool :=
  match op with
  | .Eq => eqT st a b
  | .NotEq => (eqT st a b).map (!·)
  | .Lt => match a, b with | .int i, .int j => some (decide (i < j)) | _, _ => none
  | .LtE => match a, b with | .int i, .int j => some (decide (i ≤ j)) | _, _ => none
  | .Gt => match a, b with | .int i, .int j => some (decide (j < i)) | _, _ => none
  | .GtE => match a, b with | .int i, .int j => some (decide (j ≤ i)) | _, _ => none
  | .Is => match a, b with
    | .bl x, .bl y => some (x == y)
    | .non, .non => some true
    | _, .non => some false
    | _, _ => none
  | .IsNot => match a, b with
    | .bl x, .bl y => some (x != y)
    | .non, .non => some false
    | _, .non => some true
    | _, _ => none
  | .In => inT a b st
  | .NotIn => (inT a b st).map (!·)

/-- a field is stored -/
def putL (f : Str) (v : T) : List (Str × T) → List (Str × T)
  | [] => [(f, v)]
  | (g, x) :: r => if g = f then (g, v) :: r else (g, x) :: putL f v r
/-- the place that an index tells -/
def ixN (n : Nat) (i : Int) : Option Nat := if 0 ≤ i then (if i < n then some i.toNat else none) else if -(n : Int) ≤ i then some (i + n).toNat else none
def ixT (a i : T) (st : Store) : Option T :=
  match seqOf st a with
  | some xs => match i with
    | .int k => (ixN xs.length k).bind fun j => xs[j]?
    | _ => none
  | none => match mapOf st a with
    | some kvs => if isKey i then dLook i kvs else none
    | none => none
def setIx (a i v : T) (st : Store) : R Unit :=
  match a with
  | .ref n => match st[n]?, i with
    | some (.lst xs), .int k => match ixN xs.length k with
      | some j => .ok () (st.set n (.lst (xs.set j v)))
      | none => .stuck
    | some (.dic kvs), i => if isKey i ∧ kvs.length < sizeLine then .ok () (st.set n (.dic (dPut i v kvs))) else .stuck
    | _, _ => .stuck
  | _ => .stuck
/-- where a slice begins or ends -/
def sIx (n d : Nat) : Option Int → Nat
  | none => d
  | some i => if i < 0 then (if i + n < 0 then 0 else (i + n).toNat) else if i > n then n else i.toNat
def cutT (xs : List T) (lo hi : Option Int) : List T := (xs.drop (sIx xs.length 0 lo)).take (sIx xs.length xs.length hi - sIx xs.length 0 lo)
def slcT (a : T) (lo hi : Option Int) (st : Store) : R T :=
  match a with
  | .tup xs => .ok (.tup (cutT xs lo hi)) st
  | a => match lstOf st a with
    | some xs => .ok (.rol (cutT xs lo hi)) st
    | none => .stuck
def revT (a : T) (st : Store) : R T :=
  match a with
  | .tup xs => .ok (.tup xs.reverse) st
  | a => match lstOf st a with
    | some xs => .ok (.rol xs.reverse) st
    | none => .stuck
def intsOf : List T → Option (List Int)
  | [] => some []
  | .int i :: r => (intsOf r).map (i :: ·)
  | _ :: _ => none
def boolsOf : List T → Option (List Bool)
  | [] => some []
  | .bl b :: r => (boolsOf r).map (b :: ·)
  | _ :: _ => none
def reprB (b : Bool) : Str := if b then "True" else "False"
def minL : List Int → Int
  | [] => 0
  | x :: r => r.foldl (fun m y => if y < m then y else m) x
def maxL : List Int → Int
  | [] => 0
  | x :: r => r.foldl (fun m y => if y > m then y else m) x
def isTy (ty : Ty) : T → Option Bool
  | .non => some false
  | .bl _ => some (match ty with | .int => true | .bool => true | _ => false)
  | .int _ => some (match ty with | .int => true | _ => false)
  | .str _ => some (match ty with | .str => true | _ => false)
  | .tup _ => some (match ty with | .tuple => true | _ => false)
  | _ => none
def isiF (ty : Ty) (a : T) (st : Store) : R T :=
  match lstOf st a with
  | some _ => .ok (.bl (match ty with | .list => true | _ => false)) st
  | none => match mapOf st a with
    | some _ => .ok (.bl (match ty with | .dict => true | _ => false)) st
    | none => R.ofOpt st ((isTy ty a).map .bl)
/-- ints in order -/
def insI (x : Int) : List Int → List Int
  | [] => [x]
  | y :: r => if x ≤ y then x :: y :: r else y :: insI x r
def isortI : List Int → List Int
  | [] => []
  | x :: r => insI x (isortI r)
/-- each once -/
def nubI : List Int → List Int
  | [] => []
  | x :: r => if x ∈ r then nubI r else x :: nubI r
mutual
def fromD : PyData → T
  | .none => .non
  | .bool b => .bl b
  | .int i => .int i
  | .str s => .str s
  | .tuple xs => .tup (fromDs xs)
  | .list xs => .rol (fromDs xs)
  | .dict _ => .non
def fromDs : List PyData → List T
  | [] => []
  | x :: xs => fromD x :: fromDs xs
end
def isNeT : PyData → Bool
  | .tuple (_ :: _) => true
  | _ => false
def isOth : PyData → Bool
  | .none => false
  | .tuple _ => false
  | _ => true
def notNn : PyData → Bool
  | .none => false
  | _ => true
/-- can be put in order -/
def ordD (ds : List PyData) : Bool := (ds.all fun d => ds.all fun e => PySem.W.alike d e) && (ds.all fun d => d.depth.ble 180)
def leD : PyData → PyData → Bool := PySem.W.dataLe false fun d => d
def sortT (xs : List T) : Option (List T) := match toDs xs with
  | some ds => if ordD ds && (ds.all isNeT || ds.all isOth) then some ((ds.mergeSort leD).map fromD) else none
  | none => none
def minT (xs : List T) : Option T := match toDs xs with
  | some (d :: ds) => if ordD (d :: ds) && (d :: ds).all notNn then some (fromD (PySem.W.minD d ds)) else none
  | _ => none
def bfn (b : B) (as : List T) (st : Store) : R T :=
  match b, as with
  | .len, [.str s] => if s.length ≤ sizeLine then .ok (.int s.length) st else .stuck
  | .len, [a] => match seqOf st a with
    | some xs => .ok (.int xs.length) st
    | none => match mapOf st a with
      | some kvs => .ok (.int kvs.length) st
      | none => .stuck
  | .abs, [.int i] => .ok (.int (if i < 0 then -i else i)) st
  | .int, [.int i] => .ok (.int i) st
  | .int, [.bl b] => .ok (.int (if b then 1 else 0)) st
  | .tuple, [a] => match seqOf st a with
    | some xs => .ok (.tup xs) st
    | none => .stuck
  | .list, [a] => match seqOf st a with
    | some xs => .ok (.rol xs) st
    | none => .stuck
  | .listM, [a] => match seqOf st a with
    | some xs => alloc st (.lst xs)
    | none => .stuck
  | .sum, [a] => match (lstOf st a).bind intsOf with
    | some is => .ok (.int is.sum) st
    | none => .stuck
  | .all, [a] => match (lstOf st a).bind boolsOf with
    | some bs => .ok (.bl (bs.all id)) st
    | none => .stuck
  | .any, [a] => match (lstOf st a).bind boolsOf with
    | some bs => .ok (.bl (bs.any id)) st
    | none => .stuck
  | .min1, [a] => match (lstOf st a).bind intsOf with
    | some is => if is.isEmpty then .stuck else .ok (.int (minL is)) st
    | none => match (lstOf st a).bind minT with
      | some t => .ok t st
      | none => .stuck
  | .max1, [a] => match (lstOf st a).bind intsOf with
    | some is => if is.isEmpty then .stuck else .ok (.int (maxL is)) st
    | none => .stuck
  | .sorted, [a] => match (lstOf st a).bind intsOf with
    | some is => .ok (.rol ((isortI is).map .int)) st
    | none => match (mapOf st a).bind fun kvs => intsOf (kvs.map (·.1)) with
      | some is => if is.length < 64 then .ok (.rol ((isortI is).map .int)) st else .stuck
      | none => match (lstOf st a).bind sortT with
        | some us => .ok (.rol us) st
        | none => .stuck
  | .sset, [a] => match (seqOf st a).bind intsOf with
    | some is => if is.length < 60 then .ok (.rol ((isortI (nubI is)).map .int)) st else .stuck
    | none => .stuck
  | .min2, [.int i, .int j] => .ok (.int (if j < i then j else i)) st
  | .max2, [.int i, .int j] => .ok (.int (if j > i then j else i)) st
  | .repr, [.bl b] => .ok (.str (reprB b)) st
  | .isi ty, [a] => isiF ty a st
  | _, _ => .stuck
def mAppend (o : T) (as : List T) (st : Store) : R T :=
  match o, as with
  | .ref n, [x] => match st[n]? with
    | some (.lst xs) => if xs.length < sizeLine then .ok .non (st.set n (.lst (xs ++ [x]))) else .stuck
    | _ => .stuck
  | _, _ => .stuck
def mExtend (o : T) (as : List T) (st : Store) : R T :=
  match o, as with
  | .ref n, [y] => match st[n]?, lstOf st y with
    | some (.lst xs), some ys => if xs.length + ys.length ≤ sizeLine then .ok .non (st.set n (.lst (xs ++ ys))) else .stuck
    | _, _ => .stuck
  | _, _ => .stuck
def mGet (o : T) (as : List T) (st : Store) : R T :=
  match mapOf st o with
  | some kvs => match as with
    | [k] => if isKey k then .ok ((dLook k kvs).getD .non) st else .stuck
    | [k, d] => if isKey k then .ok ((dLook k kvs).getD d) st else .stuck
    | _ => .stuck
  | none => .stuck
def mUpdate (o : T) (as : List T) (st : Store) : R T :=
  match o, as with
  | .ref n, [.rod more] => match st[n]? with
    | some (.dic kvs) => if kvs.length + more.length ≤ sizeLine then .ok .non (st.set n (.dic (more.foldl (fun acc p => dPut p.1 p.2 acc) kvs))) else .stuck
    | _ => .stuck
  | _, _ => .stuck
def strsOf : List T → Option (List Str)
  | [] => some []
  | .str s :: r => (strsOf r).map (s :: ·)
  | _ :: _ => none
def idxS (z : Str) (ys : List Str) : Option Nat := ys.findIdx? fun y => decide (y = z)
/-- t.index(x), of texts -/
def mIndex (o : T) (as : List T) (st : Store) : R T :=
  match o, as with
  | .ctp xs, [.str z] => match (strsOf xs).bind (idxS z) with
    | some j => .ok (.int j) st
    | none => .stuck
  | _, _ => .stuck
def mfn (m : M) (o : T) (as : List T) (st : Store) : R T :=
  match m with
  | .append => mAppend o as st
  | .extend => mExtend o as st
  | .get => mGet o as st
  | .update => mUpdate o as st
  | .index => mIndex o as st
  | _ => .stuck
/-- the receiver is of the method's type -/
def mOk (m : M) (o : T) (st : Store) : Bool :=
  match m with
  | .append => (lstOf st o).isSome
  | .extend => (lstOf st o).isSome
  | .get => (mapOf st o).isSome
  | .update => (mapOf st o).isSome
  | .index => match o with | .ctp _ => true | _ => false
  | _ => false

/-! ### what is walked -/
inductive Itv where
  | sq (t : T) | rng (lo : Int) (n : Nat) | rngC (lo c : Int) (n : Nat) | enum (t : T) | zip (t u : T) | keys (kvs : List (T × T))
/-- how many turns, by the store as it is -/
def Itv.len (st : Store) : Itv → Option Nat
  | .sq t => (seqOf st t).map (·.length)
  | .rng _ n => some n
  | .rngC _ _ n => some n
  | .enum t => (seqOf st t).map (·.length)
  | .zip t u => match seqOf st t, seqOf st u with
    | some xs, some ys => some (min xs.length ys.length)
    | _, _ => none
  | .keys kvs => some kvs.length
def pairT (a b : Option T) : Option T := match a, b with
  | some x, some y => some (.tup [x, y])
  | _, _ => none
def Itv.get (st : Store) (i : Nat) : Itv → Option T
  | .sq t => (seqOf st t).bind (·[i]?)
  | .rng lo n => if i < n then some (.int (lo + i)) else none
  | .rngC lo c n => if i < n then some (.int (lo + i * c)) else none
  | .enum t => pairT (some (.int i)) ((seqOf st t).bind (·[i]?))
  | .zip t u => pairT ((seqOf st t).bind (·[i]?)) ((seqOf st u).bind (·[i]?))
  | .keys kvs => kvs[i]?.map (·.1)
def bnd62 (i : Int) : Bool := inS P62 i
/-- what is walked is a plain tuple -/
def unC : T → T
  | .ctp l => .tup l
  | t => t
def itVal (t : T) (st : Store) : Option Itv := match seqOf st t with
  | some _ => some (.sq (unC t))
  | none => match t with
    | .rod kvs => some (.keys kvs)
    | _ => none
def itRange : List T → Option Itv
  | [.int j] => if bnd62 j then some (.rng 0 j.toNat) else none
  | [.int i, .int j] => if bnd62 i && bnd62 j then some (.rng i (j - i).toNat) else none
  | [.int i, .int j, .int c] => if c = -1 ∧ (bnd62 i && bnd62 j) = true then some (.rngC i c (i - j).toNat) else none
  | _ => none
def itEnum (t : T) (st : Store) : Option Itv := (seqOf st t).map fun _ => .enum (unC t)
def itZip (a b : T) (st : Store) : Option Itv := match seqOf st a, seqOf st b with
  | some _, some _ => some (.zip (unC a) (unC b))
  | _, _ => none

/-! ### loops -/
def forL (it : Itv) (body : T → Sl → Store → RS) : Nat → Nat → Sl → Store → RS
  | 0, i, sl, st => if it.len st = some i then .nx sl st else .stuck
  | k + 1, i, sl, st => match it.get st i with
    | some x => match body x sl st with
      | .nx sl st => forL it body k (i + 1) sl st
      | .ct sl st => forL it body k (i + 1) sl st
      | .bk sl st => .nx sl st
      | r => r
    | none => .stuck
def whileL (c : Sl → Store → R Bool) (body : Sl → Store → RS) : Nat → Sl → Store → RS
  | 0, _, _ => .stuck
  | k + 1, sl, st => (c sl st).thenS sl fun b st => if b then match body sl st with
      | .nx sl st => whileL c body k sl st
      | .ct sl st => whileL c body k sl st
      | .bk sl st => .nx sl st
      | r => r
    else .nx sl st
/-- a comprehension's loop: body tells an item, or none; the items made so far -/
def compL (it : Itv) (body : T → Store → R (Option T)) : Nat → Nat → List T → Store → R (List T)
  | 0, i, acc, st => if it.len st = some i then .ok acc st else .stuck
  | k + 1, i, acc, st => match it.get st i with
    | some x => (body x st).bind fun o st => match o with
      | none => compL it body k (i + 1) acc st
      | some y => if acc.length < sizeLine then compL it body k (i + 1) (acc ++ [y]) st else .stuck
    | none => .stuck
/-- two clauses: the inner loop adds its items -/
def compN (it : Itv) (body : T → List T → Store → R (List T)) : Nat → Nat → List T → Store → R (List T)
  | 0, i, acc, st => if it.len st = some i then .ok acc st else .stuck
  | k + 1, i, acc, st => match it.get st i with
    | some x => (body x acc st).bind fun acc st => compN it body k (i + 1) acc st
    | none => .stuck
/-- a dict's loop -/
def compD (it : Itv) (body : T → Store → R (Option (T × T))) : Nat → Nat → List (T × T) → Store → R (List (T × T))
  | 0, i, acc, st => if it.len st = some i then .ok acc st else .stuck
  | k + 1, i, acc, st => match it.get st i with
    | some x => (body x st).bind fun o st => match o with
      | none => compD it body k (i + 1) acc st
      | some y => if acc.length < sizeLine ∧ isKey y.1 = true then compD it body k (i + 1) (dPut y.1 y.2 acc) st else .stuck
    | none => .stuck
def wipeL (sl : Sl) : List Nat → Sl
  | [] => sl
  | v :: vs => (wipeL sl vs).set v none
/-- no exception leaves a comprehension -/
def R.noExc {α : Type} : R α → R α
  | .ok a st => .ok a st
  | _ => .stuck

def Tgs.len : Tgs → Nat
  | .nil => 0
  | .cons _ ts => ts.len + 1

/-- an own class: its name, the fields, the methods and __init__ as places among the defs -/
structure OwnC where
  name : Str
  flds : List Str
  mts : List (Str × Nat)
  ini : Option Nat
structure Tab where
  consts : List T
  own : List OwnC
/-- classes of instances are told from here on -/
def OFF : Nat := 1000
def BIG : Nat := 1000000
def Tab.cls (G : Tab) (c : Nat) : Option OwnC := if OFF ≤ c then G.own[c - OFF]? else none
def Tab.meth (G : Tab) (c : Nat) (m : Str) (fs : List (Str × T)) : Option Nat := match G.cls c with
  | some C => if (fs.lookup m).isNone then C.mts.lookup m else none
  | none => none
def Tab.fld (G : Tab) (c : Nat) (f : Str) : Bool := match G.cls c with
  | some C => C.flds.contains f
  | none => false
def Tab.init (G : Tab) (c : Nat) : Option Nat := (G.own[c]?).bind (·.ini)
def WF : Nat := 1099511627776

abbrev Call := Nat → List T → Store → R T
def truR (st : Store) (t : T) : R Bool := R.ofOpt st (tru st t)
def intO : T → Option Int
  | .int i => some i
  | _ => none

variable (cl : Call) (G : Tab)
mutual
def evE : E → Sl → Store → R T
  | .var i, sl, st => match sl[i]? with
    | some (some t) => .ok t st
    | _ => .stuck
  | .cst t, _, st => .ok t st
  | .glb x, _, st => R.ofOpt st G.consts[x]?
  | .tup es, sl, st => (evEs es sl st).bind fun ts st => if ts.length ≤ sizeLine then .ok (.tup ts) st else .stuck
  | .ctp es, sl, st => (evEs es sl st).bind fun ts st => if ts.length ≤ sizeLine then .ok (.ctp ts) st else .stuck
  | .lst m es, sl, st => (evEs es sl st).bind fun ts st => if ts.length ≤ sizeLine then newL m ts st else .stuck
  | .dct m kvs, sl, st => (evKV kvs sl st).bind fun kvs st => if kvs.length ≤ 15 then newD m (kvs.foldl (fun acc p => dPut p.1 p.2 acc) []) st else .stuck
  | .fz e, sl, st => (evE e sl st).bind fun x st => match x with
    | .ref n => match st[n]? with
      | some (.lst xs) => .ok (.rol xs) (st.set n .dead)
      | some (.dic kvs) => .ok (.rod kvs) (st.set n .dead)
      | _ => .stuck
    | _ => .stuck
  | .rep m e k, sl, st => (evE e sl st).bind fun x st => (evE k sl st).bind fun y st => match y with
    | .int k => if inS P62 k = true ∧ k.toNat ≤ sizeLine then newL m (List.replicate k.toNat x) st else .stuck
    | _ => .stuck
  | .bin op a b, sl, st => (evE a sl st).bind fun x st => (evE b sl st).bind fun y st => binT op x y st
  | .neg a, sl, st => (evE a sl st).bind fun x st => match x with
    | .int i => .ok (.int (-i)) st
    | _ => .stuck
  | .cmp op a b, sl, st => (evE a sl st).bind fun x st => (evE b sl st).bind fun y st => R.ofOpt st ((cmpT op x y st).map .bl)
  | .chn op op' a b c, sl, st => (evE a sl st).bind fun x st => (evE b sl st).bind fun y st => (R.ofOpt st (cmpT op x y st)).bind fun k st =>
      if k then (evE c sl st).bind fun z st => R.ofOpt st ((cmpT op' y z st).map .bl) else .ok (.bl false) st
  | .and a b, sl, st => (evE a sl st).bind fun x st => (truR st x).bind fun k st => if k then evE b sl st else .ok x st
  | .or a b, sl, st => (evE a sl st).bind fun x st => (truR st x).bind fun k st => if k then .ok x st else evE b sl st
  | .not a, sl, st => (evE a sl st).bind fun x st => (truR st x).bind fun k st => .ok (.bl (!k)) st
  | .ite c a b, sl, st => (evE c sl st).bind fun x st => (truR st x).bind fun k st => if k then evE a sl st else evE b sl st
  | .call f es, sl, st => (evEs es sl st).bind fun ts st => cl f ts st
  | .make c es, sl, st => (evEs es sl st).bind fun ts st => match G.init c with
    | some f => (cl (f + BIG) (.ref st.length :: ts) (st ++ [.ins (OFF + c) []])).bind fun v st' => match v with
      | .non => .ok (.ref st.length) st'
      | _ => .stuck
    | none => .stuck
  | .bcall b es, sl, st => (evEs es sl st).bind fun ts st => bfn b ts st
  | .mcall m o es, sl, st => (evE o sl st).bind fun x st => if mOk m x st then (evEs es sl st).bind fun ts st => mfn m x ts st else .stuck
  | .own m o es, sl, st => (evE o sl st).bind fun x st => match x with
    | .ref n => match st[n]? with
      | some (.ins c fs) => match G.meth c m fs with
        | some f => (evEs es sl st).bind fun ts st => cl f (.ref n :: ts) st
        | none => .stuck
      | _ => .stuck
    | _ => .stuck
  | .fld o f, sl, st => (evE o sl st).bind fun x st => match x with
    | .ref n => match st[n]? with
      | some (.ins c fs) => if G.fld c f then R.ofOpt st (fs.lookup f) else .stuck
      | _ => .stuck
    | _ => .stuck
  | .ix a i, sl, st => (evE a sl st).bind fun x st => (evE i sl st).bind fun y st => R.ofOpt st (ixT x y st)
  | .slc a lo hi, sl, st => (evE a sl st).bind fun x st => (evEo lo sl st).bind fun l st => (evEo hi sl st).bind fun h st => slcT x l h st
  | .rev a, sl, st => (evE a sl st).bind fun x st => revT x st
  | .comp m tg it c e own, sl, st => (evIt it sl st).bind fun J st => match J.len st with
    | some k => ((compL J (fun x st => (evTg tg x (wipeL sl own) st).bind fun sl' st => (evC c sl' st).bind fun b st =>
        if b then (evE e sl' st).bind fun y st => .ok (some y) st else .ok none st) k 0 [] st).bind fun xs st => newL m xs st).noExc
    | none => .stuck
  | .compx tg it c e own, sl, st => (evIt it sl st).bind fun J st => match J.len st with
    | some k => (compL J (fun x st => (evTg tg x (wipeL sl own) st).noExc.bind fun sl' st => (evC c sl' st).bind fun b st =>
        if b then (evE e sl' st).bind fun y st => .ok (some y) st else .ok none st) k 0 [] st).bind fun xs st => .ok (.rol xs) st
    | none => .stuck
  | .comp2 m tg it c tg1 it1 c1 e own own1, sl, st => (evIt it sl st).bind fun J st => match J.len st with
    | some k => ((compN J (fun x acc st => (evTg tg x (wipeL sl own) st).bind fun sl' st => (evC c sl' st).bind fun b st =>
        if b then (evIt it1 sl' st).bind fun J1 st => match J1.len st with
          | some k1 => compL J1 (fun x st => (evTg tg1 x (wipeL sl' own1) st).bind fun sl'' st => (evC c1 sl'' st).bind fun b st =>
              if b then (evE e sl'' st).bind fun y st => .ok (some y) st else .ok none st) k1 0 acc st
          | none => .stuck
        else .ok acc st) k 0 [] st).bind fun xs st => newL m xs st).noExc
    | none => .stuck
  | .dcomp m tg it c k v own, sl, st => (evIt it sl st).bind fun J st => match J.len st with
    | some n => ((compD J (fun x st => (evTg tg x (wipeL sl own) st).bind fun sl' st => (evC c sl' st).bind fun b st =>
        if b then (evE k sl' st).bind fun y st => (evE v sl' st).bind fun z st => .ok (some (y, z)) st else .ok none st) n 0 [] st).bind fun xs st => newD m xs st).noExc
    | none => .stuck
def evEs : Es → Sl → Store → R (List T)
  | .nil, _, st => .ok [] st
  | .cons e es, sl, st => (evE e sl st).bind fun t st => (evEs es sl st).bind fun ts st => .ok (t :: ts) st
def evKV : KVs → Sl → Store → R (List (T × T))
  | .nil, _, st => .ok [] st
  | .cons k v r, sl, st => (evE k sl st).bind fun a st => (evE v sl st).bind fun b st => (evKV r sl st).bind fun r st =>
      if isKey a then .ok ((a, b) :: r) st else .stuck
def evEo : Eo → Sl → Store → R (Option Int)
  | .none, _, st => .ok none st
  | .some e, sl, st => (evE e sl st).bind fun x st => match x with
    | .int i => .ok (some i) st
    | _ => .stuck
/-- a clause's test -/
def evC : Eo → Sl → Store → R Bool
  | .none, _, st => .ok true st
  | .some e, sl, st => (evE e sl st).bind fun x st => truR st x
def evIt : It → Sl → Store → R Itv
  | .val e, sl, st => (evE e sl st).bind fun x st => R.ofOpt st (itVal x st)
  | .range es, sl, st => (evEs es sl st).bind fun xs st => R.ofOpt st (itRange xs)
  | .enum e, sl, st => (evE e sl st).bind fun x st => R.ofOpt st (itEnum x st)
  | .zip a b, sl, st => (evE a sl st).bind fun x st => (evE b sl st).bind fun y st => R.ofOpt st (itZip x y st)
def evTg : Tg → T → Sl → Store → R Sl
  | .nm i, t, sl, st => .ok (sl.set i (some t)) st
  | .tup ts, t, sl, st => match t with
    | .tup xs => if xs.length = ts.len then evTgs ts xs sl st else .stuck
    | .rol xs => if xs.length = ts.len then evTgs ts xs sl st else .stuck
    | _ => .stuck
  | .sub o i, t, sl, st => (evE o sl st).bind fun x st => (evE i sl st).bind fun y st => (setIx x y t st).bind fun _ st => .ok sl st
  | .fld o f, t, sl, st => (evE o sl st).bind fun x st => match x with
    | .ref n => match st[n]? with
      | some (.ins c fs) => if fs.length < 999 ∧ G.fld c f = true then .ok sl (st.set n (.ins c (putL f t fs))) else .stuck
      | _ => .stuck
    | _ => .stuck
def evTgs : Tgs → List T → Sl → Store → R Sl
  | .nil, [], sl, st => .ok sl st
  | .cons t ts, x :: xs, sl, st => (evTg t x sl st).bind fun sl st => evTgs ts xs sl st
  | _, _, _, _ => .stuck
end
mutual
def evS : S → Sl → Store → RS
  | .asg tg e, sl, st => (evE cl G e sl st).thenS sl fun x st => (evTg cl G tg x sl st).noExc.thenS sl fun sl st => .nx sl st
  | .par i j a b, sl, st => (evE cl G a sl st).thenS sl fun x st => (evE cl G b sl st).thenS sl fun y st => .nx ((sl.set i (some x)).set j (some y)) st
  | .aug i op e, sl, st => match sl[i]? with
    | some (some x) => (evE cl G e sl st).thenS sl fun y st => match x, y with
      | .int _, .int _ => (binT op x y st).thenS sl fun z st => .nx (sl.set i (some z)) st
      | _, _ => .stuck
    | _ => .stuck
  | .augF _ _ _ _, _, _ => .stuck
  | .fz i, sl, st => match sl[i]? with
    | some (some (.ref n)) => match st[n]? with
      | some (.lst xs) => .nx (sl.set i (some (.rol xs))) (st.set n .dead)
      | some (.dic kvs) => .nx (sl.set i (some (.rod kvs))) (st.set n .dead)
      | _ => .stuck
    | _ => .stuck
  | .expr e, sl, st => (evE cl G e sl st).thenS sl fun _ st => .nx sl st
  | .ret e, sl, st => (evE cl G e sl st).thenS sl fun x st => .rt x st
  | .retN, _, st => .rt .non st
  | .pass, sl, st => .nx sl st
  | .brk, sl, st => .bk sl st
  | .cnt, sl, st => .ct sl st
  | .ifS c a b, sl, st => ((evE cl G c sl st).bind fun x st => truR st x).thenS sl fun k st => if k then evSs a sl st else evSs b sl st
  | .whl c b, sl, st => whileL (fun sl st => (evE cl G c sl st).bind fun x st => truR st x) (fun sl st => evSs b sl st) WF sl st
  | .for tg it b, sl, st => (evIt cl G it sl st).thenS sl fun J st => match J.len st with
    | some k => forL J (fun x sl st => (evTg cl G tg x sl st).noExc.thenS sl fun sl st => evSs b sl st) k 0 sl st
    | none => .stuck
  | .raise c es, sl, st => match es with
    | .nil => .xc ⟨c, []⟩ sl st
    | _ => .stuck
  | .tryS b c as h, sl, st => match evSs b sl st with
    | .xc x sl st => if x.cls = c ∧ as = none then (evSs h sl st).noXc else .stuck
    | r => r
def evSs : Ss → Sl → Store → RS
  | .nil, sl, st => .nx sl st
  | .cons s ss, sl, st => match evS s sl st with
    | .nx sl st => evSs ss sl st
    | r => r
end

/-! ### calls -/
mutual
def T.lim (n : Nat) : T → Bool
  | .ref m => decide (m < n)
  | .tup l => T.lims n l
  | .rol l => T.lims n l
  | .ctp l => T.lims n l
  | .rod l => T.limK n l
  | _ => true
def T.lims (n : Nat) : List T → Bool
  | [] => true
  | t :: ts => t.lim n && T.lims n ts
def T.limK (n : Nat) : List (T × T) → Bool
  | [] => true
  | (t, u) :: ts => t.lim n && u.lim n && T.limK n ts
end
def Cell.lim (n : Nat) : Cell → Bool
  | .lst xs => T.lims n xs
  | .dic kvs => T.limK n kvs
  | .ins _ fs => fs.all (·.2.lim n)
  | .dead => true
def Closed (st : Store) (n : Nat) : Bool := st.all (·.lim n)
/-- behind a call: what nothing names any more is forgotten -/
def gc (n : Nat) : R T → R T
  | .ok v st => if Closed (st.take n) n && decide (n ≤ st.length) then
      if v.lim n then .ok v (st.take n)
      else match v with
        | .ref m => match st[m]? with
          | some c => if c.lim n then .ok (.ref n) (st.take n ++ [c]) else .ok v st
          | none => .ok v st
        | _ => .ok v st
    else .ok v st
  | .exc x st => if Closed (st.take n) n && decide (n ≤ st.length) && x.fs.all (·.2.lim n) then .exc x (st.take n) else .exc x st
  | .stuck => .stuck
structure Fn where
  name : Str
  ps : List Str
  arity : Nat
  slots : Nat
  gc : Bool
  body : Ss
  /-- its pure meaning is told by its run -/
  sem : Bool
def RS.toR : RS → R T
  | .nx _ st => .ok .non st
  | .rt t st => .ok t st
  | .xc x _ st => .exc x st
  | _ => .stuck
/-- n calls deep -/
def run (fns : List Fn) (G : Tab) : Nat → Call
  | 0, _, _, _ => .stuck
  | n + 1, f, ts, st => match fns[f]? with
    | some F => if ts.length = F.arity then
        (if F.gc then gc st.length else id) (evSs (run fns G n) G F.body (ts.map some ++ List.replicate (F.slots - F.arity) none) st).toR
      else .stuck
    | none => if BIG ≤ f ∧ (fns[f - BIG]?).isSome then run fns G n (f - BIG) ts st else .stuck
end PF

end

section
set_option Elab.async false
set_option linter.all false
set_option maxRecDepth 100000
set_option maxHeartbeats 2000000
set_option autoImplicit false
/-! PfB1: how a store and its values lie in the abstract heap. -/
namespace PF
open PySem L2 PySem.Spec PyProof.Rows

/-- addresses of the text's own classes and defs -/
structure Ad where
  ca : Nat → Option Addr
  fa : Nat → Option Addr
/-- a list that is only read -/
def RoL (K : PySem.W.Frag) (H : Hp) (a : Addr) (xs : List V) : Prop :=
  (∃ o, H a = some (.frz o (.lst xs))) ∨ ∃ (o : Obj) (its : Array Value) (n : Nat), K.lookup a = some o ∧ o.cls = .type "list" ∧ o.dict = none ∧ o.data = .seq its n ∧ its.size ≤ sizeLine ∧ Vals xs its.toList
theorem RoL.sql {K : PySem.W.Frag} {H : Hp} {a : Addr} {xs : List V} (h : RoL K H a xs) : SqL K H a xs := by
  rcases h with h | h
  · exact .inl (.inr h)
  · exact .inr h
section
variable (K : PySem.W.Frag) (A : Ad)
/-- a dict that is never written again -/
def RoD (H : Hp) (a : Addr) (ks : List (Key × V)) : Prop := ∃ o, H a = some (.frz o (.dK ks))
/-- a tuple of which it is known that it has no dict -/
structure PlTup (H : Hp) (a : Addr) (xs : List V) : Prop where
  ex : ∃ o : Obj, H a = some (.frz o (.tup xs)) ∧ o.dict = none
mutual
inductive RT (ρ : List Addr) (H : Hp) : V → T → Prop
  | non : RT ρ H .non .non
  | bl (b : Bool) : RT ρ H (.bl b) (.bl b)
  | int (i : Int) : RT ρ H (.int i) (.int i)
  | str (s : Str) : PyData.strOk s = true → RT ρ H (.str s) (.str s)
  | tup {a : Addr} {xs : List V} {ts : List T} : SqT K H a xs → RTs ρ H xs ts → RT ρ H (.ref a) (.tup ts)
  | rol {a : Addr} {xs : List V} {ts : List T} : RoL K H a xs → RTs ρ H xs ts → RT ρ H (.ref a) (.rol ts)
  | ctp {a : Addr} {xs : List V} {ts : List T} : PlTup H a xs → RTs ρ H xs ts → RT ρ H (.ref a) (.ctp ts)
  | rod {a : Addr} {ks : List (Key × V)} {kvs : List (T × T)} : RoD H a ks → RKs ρ H ks kvs → RT ρ H (.ref a) (.rod kvs)
  | ref {a : Addr} {n : Nat} : ρ[n]? = some a → RT ρ H (.ref a) (.ref n)
  | fn {a : Addr} {n : Nat} : A.fa n = some a → RT ρ H (.ref a) (.fn n)
inductive RTs (ρ : List Addr) (H : Hp) : List V → List T → Prop
  | nil : RTs ρ H [] []
  | cons {v : V} {vs : List V} {t : T} {ts : List T} : RT ρ H v t → RTs ρ H vs ts → RTs ρ H (v :: vs) (t :: ts)
/-- pairs of a dict -/
inductive RKs (ρ : List Addr) (H : Hp) : List (Key × V) → List (T × T) → Prop
  | nil : RKs ρ H [] []
  | cons {k : Key} {v : V} {ks : List (Key × V)} {t u : T} {kvs : List (T × T)} : RT ρ H (kV k) t → RT ρ H v u → RKs ρ H ks kvs → RKs ρ H ((k, v) :: ks) ((t, u) :: kvs)
end
inductive RFs (ρ : List Addr) (H : Hp) : List (Str × V) → List (Str × T) → Prop
  | nil : RFs ρ H [] []
  | cons {f : Str} {v : V} {gs : List (Str × V)} {t : T} {fs : List (Str × T)} : RT K A ρ H v t → RFs ρ H gs fs → RFs ρ H ((f, v) :: gs) ((f, t) :: fs)
def RC (ρ : List Addr) (H : Hp) (a : Addr) : Cell → Prop
  | .lst ts => ∃ xs, H a = some (.lst xs) ∧ RTs K A ρ H xs ts
  | .dic kvs => ∃ ks, H a = some (.dK ks) ∧ RKs K A ρ H ks kvs
  | .ins c fs => ∃ C dx gs, A.ca c = some C ∧ H a = some (.ins C dx gs) ∧ RFs K A ρ H gs fs
  | .dead => ∃ o, H a = some o
structure Rel (ρ : List Addr) (H : Hp) (st : Store) : Prop where
  len : ρ.length = st.length
  nd : ρ.Nodup
  cell : ∀ (i : Nat) (a : Addr) (c : Cell), ρ[i]? = some a → st[i]? = some c → RC K A ρ H a c
/-- what values lean on stands -/
structure Kp (ρ : List Addr) (H : Hp) (ρ' : List Addr) (H' : Hp) : Prop where
  pre : ρ <+: ρ'
  tup : ∀ a xs, SqT K H a xs → SqT K H' a xs
  frz : ∀ a o u, H a = some (.frz o u) → H' a = some (.frz o u)
structure Step (ρ : List Addr) (H : Hp) (ρ' : List Addr) (H' : Hp) : Prop extends Kp K ρ H ρ' H' where
  fr : ∀ a o, H a = some o → a ∉ ρ → H' a = some o
  fresh : ∀ a, a ∈ ρ' → a ∈ ρ ∨ H a = none
/-- the slots -/
structure RSl (ρ : List Addr) (H : Hp) (σ : L2.St) (sl : Sl) : Prop where
  len : σ.length = sl.length
  at_ : ∀ (i : Nat) (t : T), sl[i]? = some (some t) → ∃ v, σ[i]? = some (some v) ∧ RT K A ρ H v t
def RX (ρ : List Addr) (H : Hp) (x : Ex) (cls : Value) (d : Option Addr) : Prop :=
  ∃ C, A.ca x.cls = some C ∧ cls = .ref C ∧ ((x.fs = [] ∧ d = none) ∨ ∃ dd gs, d = some dd ∧ H dd = some (.xd gs) ∧ RFs K A ρ H gs x.fs)
/-- what is wanted behind code that gives r -/
def OkG {α β : Type} (rr : List Addr → Hp → β → α → Prop) (ρ : List Addr) (H : Hp) (r : R α) (Q : β → Hp → Prop) (W : Value → Option Addr → Hp → Prop) : Prop := match r with
  | .ok a st' => ∀ b H' ρ', Step K ρ H ρ' H' → Rel K A ρ' H' st' → rr ρ' H' b a → Q b H'
  | .exc x st' => ∀ cls d H' ρ', Step K ρ H ρ' H' → Rel K A ρ' H' st' → RX K A ρ' H' x cls d → W cls d H'
  | .stuck => False
end

section
variable {K : PySem.W.Frag} {A : Ad} {ρ ρ1 ρ2 : List Addr} {H H1 H2 : Hp} {st st1 : Store}
theorem Step.refl : Step K ρ H ρ H := ⟨⟨List.prefix_rfl, fun _ _ h => h, fun _ _ _ h => h⟩, fun _ _ h _ => h, fun _ h => .inl h⟩
theorem Step.out (s : Step K ρ H ρ1 H1) {a : Addr} {o : HO} (h : H a = some o) (n : a ∉ ρ) : a ∉ ρ1 := fun q => by
  rcases s.fresh a q with q | q
  · exact n q
  · rw [h] at q; cases q
theorem Step.trans (a : Step K ρ H ρ1 H1) (b : Step K ρ1 H1 ρ2 H2) : Step K ρ H ρ2 H2 :=
  ⟨⟨a.pre.trans b.pre, fun c xs h => b.tup c xs (a.tup c xs h), fun c o u h => b.frz c o u (a.frz c o u h)⟩, fun c o h n => b.fr c o (a.fr c o h n) (a.out h n), fun c q => by
    rcases b.fresh c q with q | q
    · exact a.fresh c q
    · by_cases n : c ∈ ρ
      · exact .inl n
      · refine .inr ?_
        cases e : H c with
        | none => rfl
        | some o => rw [a.fr c o e n] at q; cases q⟩
theorem Kp.rol (s : Kp K ρ H ρ1 H1) (a : Addr) (xs : List V) (h : RoL K H a xs) : RoL K H1 a xs := by
  rcases h with ⟨o, h⟩ | h
  · exact .inl ⟨o, s.frz _ _ _ h⟩
  · exact .inr h
theorem pre_get {α : Type} {l l' : List α} (h : l <+: l') {n : Nat} {a : α} (e : l[n]? = some a) : l'[n]? = some a := by
  obtain ⟨r, rfl⟩ := h
  rw [List.getElem?_append_left (List.getElem?_eq_some_iff.mp e).1]; exact e
mutual
theorem RT.kp (s : Kp K ρ H ρ1 H1) : ∀ {v : V} {t : T}, RT K A ρ H v t → RT K A ρ1 H1 v t
  | _, _, .non => .non
  | _, _, .bl b => .bl b
  | _, _, .int i => .int i
  | _, _, .str x h => .str x h
  | _, _, .tup h r => .tup (s.tup _ _ h) (RTs.kp s r)
  | _, _, .rol h r => .rol (s.rol _ _ h) (RTs.kp s r)
  | _, _, .ctp h r => .ctp ⟨h.ex.elim fun o q => ⟨o, s.frz _ _ _ q.1, q.2⟩⟩ (RTs.kp s r)
  | _, _, .rod ⟨o, h⟩ r => .rod ⟨o, s.frz _ _ _ h⟩ (RKs.kp s r)
  | _, _, .ref h => .ref (pre_get s.pre h)
  | _, _, .fn h => .fn h
theorem RTs.kp (s : Kp K ρ H ρ1 H1) : ∀ {vs : List V} {ts : List T}, RTs K A ρ H vs ts → RTs K A ρ1 H1 vs ts
  | _, _, .nil => .nil
  | _, _, .cons r rs => .cons (RT.kp s r) (RTs.kp s rs)
theorem RKs.kp (s : Kp K ρ H ρ1 H1) : ∀ {ks : List (Key × V)} {kvs : List (T × T)}, RKs K A ρ H ks kvs → RKs K A ρ1 H1 ks kvs
  | _, _, .nil => .nil
  | _, _, .cons a b r => .cons (RT.kp s a) (RT.kp s b) (RKs.kp s r)
end
theorem RFs.kp (s : Kp K ρ H ρ1 H1) : ∀ {gs : List (Str × V)} {fs : List (Str × T)}, RFs K A ρ H gs fs → RFs K A ρ1 H1 gs fs
  | _, _, .nil => .nil
  | _, _, .cons a r => .cons (a.kp s) (RFs.kp s r)
theorem RT.step (s : Step K ρ H ρ1 H1) {v : V} {t : T} (r : RT K A ρ H v t) : RT K A ρ1 H1 v t := r.kp s.toKp
theorem RTs.step (s : Step K ρ H ρ1 H1) {v : List V} {t : List T} (r : RTs K A ρ H v t) : RTs K A ρ1 H1 v t := r.kp s.toKp
theorem RKs.step (s : Step K ρ H ρ1 H1) {v : List (Key × V)} {t : List (T × T)} (r : RKs K A ρ H v t) : RKs K A ρ1 H1 v t := r.kp s.toKp
theorem RFs.step (s : Step K ρ H ρ1 H1) {v : List (Str × V)} {t : List (Str × T)} (r : RFs K A ρ H v t) : RFs K A ρ1 H1 v t := r.kp s.toKp
theorem RC.step (s : Step K ρ H ρ1 H1) {a : Addr} (e : H1 a = H a) : ∀ {c : Cell}, RC K A ρ H a c → RC K A ρ1 H1 a c
  | .lst ts, ⟨xs, h, r⟩ => ⟨xs, e.trans h, r.step s⟩
  | .dic kvs, ⟨ks, h, r⟩ => ⟨ks, e.trans h, r.step s⟩
  | .ins c fs, ⟨C, dx, gs, k, h, r⟩ => ⟨C, dx, gs, k, e.trans h, r.step s⟩
  | .dead, ⟨o, h⟩ => ⟨o, e.trans h⟩
mutual
theorem RT.app {l : List Addr} : ∀ {v : V} {t : T}, RT K A ρ H v t → RT K A (ρ ++ l) H v t
  | _, _, .non => .non
  | _, _, .bl b => .bl b
  | _, _, .int i => .int i
  | _, _, .str x h => .str x h
  | _, _, .tup h r => .tup h (RTs.app r)
  | _, _, .rol h r => .rol h (RTs.app r)
  | _, _, .ctp h r => .ctp h (RTs.app r)
  | _, _, .rod h r => .rod h (RKs.app r)
  | _, _, .ref h => .ref (pre_get (List.prefix_append _ _) h)
  | _, _, .fn h => .fn h
theorem RTs.app {l : List Addr} : ∀ {vs : List V} {ts : List T}, RTs K A ρ H vs ts → RTs K A (ρ ++ l) H vs ts
  | _, _, .nil => .nil
  | _, _, .cons r rs => .cons (RT.app r) (RTs.app rs)
theorem RKs.app {l : List Addr} : ∀ {ks : List (Key × V)} {kvs : List (T × T)}, RKs K A ρ H ks kvs → RKs K A (ρ ++ l) H ks kvs
  | _, _, .nil => .nil
  | _, _, .cons a b r => .cons (RT.app a) (RT.app b) (RKs.app r)
end
theorem RFs.app {l : List Addr} : ∀ {gs : List (Str × V)} {fs : List (Str × T)}, RFs K A ρ H gs fs → RFs K A (ρ ++ l) H gs fs
  | _, _, .nil => .nil
  | _, _, .cons a r => .cons a.app (RFs.app r)
theorem RC.app {l : List Addr} {a : Addr} : ∀ {c : Cell}, RC K A ρ H a c → RC K A (ρ ++ l) H a c
  | .lst ts, ⟨xs, h, r⟩ => ⟨xs, h, r.app⟩
  | .dic kvs, ⟨ks, h, r⟩ => ⟨ks, h, r.app⟩
  | .ins c fs, ⟨C, dx, gs, k, h, r⟩ => ⟨C, dx, gs, k, h, r.app⟩
  | .dead, h => h
theorem RSl.kp (s : Kp K ρ H ρ1 H1) {σ : L2.St} {sl : Sl} (r : RSl K A ρ H σ sl) : RSl K A ρ1 H1 σ sl :=
  ⟨r.len, fun i t e => let ⟨v, e1, h⟩ := r.at_ i t e; ⟨v, e1, h.kp s⟩⟩
theorem RSl.step (s : Step K ρ H ρ1 H1) {σ : L2.St} {sl : Sl} (r : RSl K A ρ H σ sl) : RSl K A ρ1 H1 σ sl := r.kp s.toKp
theorem RC.ob {a : Addr} : ∀ {c : Cell}, RC K A ρ H a c → ∃ o, H a = some o
  | .lst _, ⟨_, h, _⟩ => ⟨_, h⟩
  | .dic _, ⟨_, h, _⟩ => ⟨_, h⟩
  | .ins _ _, ⟨_, _, _, _, h, _⟩ => ⟨_, h⟩
  | .dead, h => h
theorem Rel.at_ (r : Rel K A ρ H st) {i : Nat} {a : Addr} (e : ρ[i]? = some a) : ∃ c, st[i]? = some c ∧ RC K A ρ H a c := by
  have hi : i < st.length := by rw [← r.len]; exact (List.getElem?_eq_some_iff.mp e).1
  exact ⟨st[i], List.getElem?_eq_getElem hi, r.cell i a _ e (List.getElem?_eq_getElem hi)⟩
theorem Rel.addr (r : Rel K A ρ H st) {i : Nat} {c : Cell} (e : st[i]? = some c) : ∃ a, ρ[i]? = some a := by
  have hi : i < ρ.length := by rw [r.len]; exact (List.getElem?_eq_some_iff.mp e).1
  exact ⟨ρ[i], List.getElem?_eq_getElem hi⟩
theorem Rel.fresh (r : Rel K A ρ H st) {p : Addr} (h : H p = none) : p ∉ ρ := fun hp => by
  obtain ⟨i, hi⟩ := List.getElem?_of_mem hp
  obtain ⟨c, _, k⟩ := r.at_ hi
  obtain ⟨o, e⟩ := k.ob
  rw [h] at e; cases e
theorem OkG.base {α β : Type} {rr : List Addr → Hp → β → α → Prop} {r : R α} {Q : β → Hp → Prop} {W : Value → Option Addr → Hp → Prop} (h : OkG K A rr ρ H r Q W) (s : Step K ρ H ρ1 H1) : OkG K A rr ρ1 H1 r Q W := by
  cases r with
  | ok a st' => exact fun b H' ρ' s' => h b H' ρ' (s.trans s')
  | exc x st' => exact fun c d H' ρ' s' => h c d H' ρ' (s.trans s')
  | stuck => exact h
theorem OkG.seq {α β γ δ : Type} {rr : List Addr → Hp → β → α → Prop} {rs : List Addr → Hp → δ → γ → Prop} {r : R α} {f : α → Store → R γ} {Q1 : β → Hp → Prop} {Q : δ → Hp → Prop} {W : Value → Option Addr → Hp → Prop}
    (h : OkG K A rs ρ H (r.bind f) Q W) (hk : ∀ a st1 b H1 ρ1, Step K ρ H ρ1 H1 → Rel K A ρ1 H1 st1 → rr ρ1 H1 b a → OkG K A rs ρ1 H1 (f a st1) Q W → Q1 b H1) : OkG K A rr ρ H r Q1 W := by
  cases r with
  | ok a st' => exact fun b H' ρ' s' R' q => hk a st' b H' ρ' s' R' q (OkG.base h s')
  | exc x st' => exact h
  | stuck => exact h
/-- .. seen from further on, the base kept -/
theorem OkG.seqO {α β γ δ : Type} {rr : List Addr → Hp → β → α → Prop} {rs : List Addr → Hp → δ → γ → Prop} {r : R α} {f : α → Store → R γ} {Q1 : β → Hp → Prop} {Q : δ → Hp → Prop} {W : Value → Option Addr → Hp → Prop}
    (h : OkG K A rs ρ H (r.bind f) Q W) (s0 : Step K ρ H ρ1 H1) (hk : ∀ a st1 b H2 ρ2, Step K ρ1 H1 ρ2 H2 → Rel K A ρ2 H2 st1 → rr ρ2 H2 b a → OkG K A rs ρ H (f a st1) Q W → Q1 b H2) : OkG K A rr ρ1 H1 r Q1 W := by
  cases r with
  | ok a st' => exact fun b H' ρ' s' R' q => hk a st' b H' ρ' s' R' q h
  | exc x st' => exact fun c d H' ρ' s' R' q => h c d H' ρ' (s0.trans s') R' q
  | stuck => exact h
theorem OkG.mono {α β : Type} {rr : List Addr → Hp → β → α → Prop} {r : R α} {Q Q' : β → Hp → Prop} {W W' : Value → Option Addr → Hp → Prop} (h : OkG K A rr ρ H r Q W) (hq : ∀ b H, Q b H → Q' b H) (hw : ∀ c d H, W c d H → W' c d H) : OkG K A rr ρ H r Q' W' := by
  cases r with
  | ok a st' => exact fun b H' ρ' s' R' q => hq _ _ (h b H' ρ' s' R' q)
  | exc x st' => exact fun c d H' ρ' s' R' q => hw _ _ _ (h c d H' ρ' s' R' q)
  | stuck => exact h

/-! ### the heap grows, a cell is written -/
theorem Step.updW {p : Addr} {o : HO} (h : ∀ u, H p = some u → p ∈ ρ ∧ Mut (some u)) : Step K ρ H ρ (upd H p o) := by
  have n1 : ∀ a xs, H a = some (.tup xs) → a ≠ p := fun a xs q e => by subst e; exact (h _ q).2
  have n2 : ∀ a ob v, H a = some (.frz ob v) → a ≠ p := fun a ob v q e => by subst e; exact (h _ q).2
  refine ⟨⟨List.prefix_rfl, fun a xs q => ?_, fun a o u q => ?_⟩, fun a o q n => ?_, fun a q => .inl q⟩
  · rcases q with q | q
    · refine .inl ?_
      rcases q with q | ⟨u, q⟩
      · exact .inl (by rw [upd_ne (n1 _ _ q)]; exact q)
      · exact .inr ⟨u, by rw [upd_ne (n2 _ _ _ q)]; exact q⟩
    · exact .inr q
  · rw [upd_ne (n2 _ _ _ q)]; exact q
  · rw [upd_ne fun e => n (by rw [e]; exact (h o (by rw [← e]; exact q)).1)]; exact q
theorem Step.new {p : Addr} {o : HO} (h : H p = none) : Step K ρ H ρ (L2.upd H p o) := Step.updW fun u e => by rw [h] at e; cases e
theorem Step.push (s : Step K ρ H ρ1 H1) {p : Addr} (hp : p ∈ ρ ∨ H p = none) : Step K ρ H (ρ1 ++ [p]) H1 :=
  ⟨⟨s.pre.trans (List.prefix_append _ _), s.tup, s.frz⟩, s.fr, fun a q => by
    rcases List.mem_append.mp q with q | q
    · exact s.fresh a q
    · rw [List.mem_singleton.mp q]; exact hp⟩
/-- an object that is no tuple and is not locked is written -/
theorem Step.write {p : Addr} {o u : HO} (hr : p ∈ ρ) (h : H p = some u) (hu : Mut (some u)) : Step K ρ H ρ (L2.upd H p o) := Step.updW fun v e => by
  rw [h] at e; cases e; exact ⟨hr, hu⟩
/-- an object is written that no value stands for -/
theorem tup_off {p : Addr} {o u : HO} (h : H p = some u) (hu : Mut (some u)) {a : Addr} {xs : List V} (q : SqT K H a xs) : SqT K (upd H p o) a xs := by
  rcases q with q | q
  · refine .inl ?_
    rcases q with q | ⟨w, q⟩
    · exact .inl (by rw [upd_ne fun e => by subst e; rw [h] at q; cases q; exact hu]; exact q)
    · exact .inr ⟨w, by rw [upd_ne fun e => by subst e; rw [h] at q; cases q; exact hu]; exact q⟩
  · exact .inr q
theorem frz_off {p : Addr} {o u : HO} (h : H p = some u) (hu : Mut (some u)) {a : Addr} {ob : Obj} {w : HO} (q : H a = some (.frz ob w)) : upd H p o a = some (.frz ob w) := by
  rw [upd_ne fun e => by subst e; rw [h] at q; cases q; exact hu]; exact q
mutual
theorem RT.off {p : Addr} {o u : HO} (h : H p = some u) (hu : Mut (some u)) : ∀ {v : V} {t : T}, RT K A ρ H v t → RT K A ρ (upd H p o) v t
  | _, _, .non => .non
  | _, _, .bl b => .bl b
  | _, _, .int i => .int i
  | _, _, .str x h => .str x h
  | _, _, .tup k r => .tup (tup_off h hu k) (RTs.off h hu r)
  | _, _, .rol k r => .rol (by
      rcases k with ⟨o, k⟩ | k
      · exact .inl ⟨o, frz_off h hu k⟩
      · exact .inr k) (RTs.off h hu r)
  | _, _, .ctp k r => .ctp ⟨k.ex.elim fun o q => ⟨o, frz_off h hu q.1, q.2⟩⟩ (RTs.off h hu r)
  | _, _, .rod ⟨o, k⟩ r => .rod ⟨o, frz_off h hu k⟩ (RKs.off h hu r)
  | _, _, .ref k => .ref k
  | _, _, .fn k => .fn k
theorem RTs.off {p : Addr} {o u : HO} (h : H p = some u) (hu : Mut (some u)) : ∀ {vs : List V} {ts : List T}, RTs K A ρ H vs ts → RTs K A ρ (upd H p o) vs ts
  | _, _, .nil => .nil
  | _, _, .cons r rs => .cons (RT.off h hu r) (RTs.off h hu rs)
theorem RKs.off {p : Addr} {o u : HO} (h : H p = some u) (hu : Mut (some u)) : ∀ {ks : List (Key × V)} {kvs : List (T × T)}, RKs K A ρ H ks kvs → RKs K A ρ (upd H p o) ks kvs
  | _, _, .nil => .nil
  | _, _, .cons a b r => .cons (RT.off h hu a) (RT.off h hu b) (RKs.off h hu r)
end
theorem RFs.off {p : Addr} {o u : HO} (h : H p = some u) (hu : Mut (some u)) : ∀ {gs : List (Str × V)} {fs : List (Str × T)}, RFs K A ρ H gs fs → RFs K A ρ (upd H p o) gs fs
  | _, _, .nil => .nil
  | _, _, .cons a r => .cons (a.off h hu) (RFs.off h hu r)
theorem RC.off {p : Addr} {o u : HO} (h : H p = some u) (hu : Mut (some u)) {a : Addr} (n : a ≠ p) : ∀ {c : Cell}, RC K A ρ H a c → RC K A ρ (upd H p o) a c
  | .lst ts, ⟨xs, e, r⟩ => ⟨xs, by rw [upd_ne n]; exact e, r.off h hu⟩
  | .dic kvs, ⟨ks, e, r⟩ => ⟨ks, by rw [upd_ne n]; exact e, r.off h hu⟩
  | .ins c fs, ⟨C, dx, gs, k, e, r⟩ => ⟨C, dx, gs, k, by rw [upd_ne n]; exact e, r.off h hu⟩
  | .dead, ⟨w, e⟩ => ⟨w, by rw [upd_ne n]; exact e⟩
theorem Rel.off (r : Rel K A ρ H st) {p : Addr} {o u : HO} (np : p ∉ ρ) (h : H p = some u) (hu : Mut (some u)) : Rel K A ρ (upd H p o) st :=
  ⟨r.len, r.nd, fun i a c e1 e2 => (r.cell i a c e1 e2).off h hu fun e => np (by rw [← e]; exact List.mem_of_getElem? e1)⟩
theorem Kp.refl : Kp K ρ H ρ H := ⟨List.prefix_rfl, fun _ _ h => h, fun _ _ _ h => h⟩
theorem Kp.trans {ρ2 : List Addr} {H2 : Hp} (a : Kp K ρ H ρ1 H1) (b : Kp K ρ1 H1 ρ2 H2) : Kp K ρ H ρ2 H2 := ⟨a.pre.trans b.pre, fun c xs h => b.tup c xs (a.tup c xs h), fun c o u h => b.frz c o u (a.frz c o u h)⟩
theorem Kp.off (s : Kp K ρ H ρ1 H1) {p : Addr} {o u : HO} (h : H1 p = some u) (hu : Mut (some u)) : Kp K ρ H ρ1 (upd H1 p o) :=
  ⟨s.pre, fun a xs q => tup_off h hu (s.tup a xs q), fun a ob w q => frz_off h hu (s.frz a ob w q)⟩
theorem Step.off (s : Step K ρ H ρ1 H1) {p : Addr} {o : HO} (h : H p = none) : Step K ρ H ρ1 (upd H1 p o) := by
  have n : ∀ {a : Addr} {u : HO}, H a = some u → a ≠ p := fun e q => by subst q; rw [h] at e; cases e
  refine ⟨⟨s.pre, fun a xs q => ?_, fun a ob u q => ?_⟩, fun a u q m => ?_, s.fresh⟩
  · have q' := s.tup a xs q
    rcases q with q | q
    · rcases q with q | ⟨w, q⟩
      · rcases q' with q' | q'
        · rcases q' with q' | ⟨w, q'⟩
          · exact .inl (.inl (by rw [upd_ne (n q)]; exact q'))
          · exact .inl (.inr ⟨w, by rw [upd_ne (n q)]; exact q'⟩)
        · exact .inr q'
      · exact .inl (.inr ⟨w, by rw [upd_ne (n q)]; exact s.frz _ _ _ q⟩)
    · exact .inr q
  · rw [upd_ne (n q)]; exact s.frz _ _ _ q
  · rw [upd_ne (n q)]; exact s.fr _ _ q m
/-- a new object that no cell stands for (a tuple) -/
theorem Rel.new (r : Rel K A ρ H st) {p : Addr} {o : HO} (h : H p = none) : Rel K A ρ (upd H p o) st :=
  ⟨r.len, r.nd, fun i a c e1 e2 => (r.cell i a c e1 e2).step (Step.new h) (by
    have : a ≠ p := fun q => r.fresh h (by rw [← q]; exact List.mem_of_getElem? e1)
    exact upd_ne this)⟩
/-- a new cell -/
theorem Rel.push (r : Rel K A ρ H st) {p : Addr} (h : p ∉ ρ) {c : Cell} (hc : RC K A (ρ ++ [p]) H p c) : Rel K A (ρ ++ [p]) H (st ++ [c]) := by
  refine ⟨by simp [r.len], ?_, fun i a d e1 e2 => ?_⟩
  · rw [List.nodup_append]
    refine ⟨r.nd, by simp, fun x hx y hy e => ?_⟩
    have : y = p := by simpa using hy
    subst this; subst e
    exact h hx
  · by_cases hi : i < ρ.length
    · rw [List.getElem?_append_left hi] at e1
      rw [List.getElem?_append_left (by rw [← r.len]; exact hi)] at e2
      exact (r.cell i a d e1 e2).app
    · have hl : (ρ ++ [p]).length = ρ.length + 1 := by simp
      have h1 : i < ρ.length + 1 := by rw [← hl]; exact (List.getElem?_eq_some_iff.mp e1).1
      have e : i = ρ.length := by omega
      subst e
      rw [List.getElem?_append_right (Nat.le_refl _)] at e1
      rw [r.len, List.getElem?_append_right (Nat.le_refl _)] at e2
      simp at e1 e2
      subst e1; subst e2
      exact hc
theorem Rel.alloc (r : Rel K A ρ H st) {p : Addr} (h : H p = none) {o : HO} {c : Cell} (hc : ∀ ρ', Step K ρ H ρ' (upd H p o) → RC K A ρ' (upd H p o) p c) : Rel K A (ρ ++ [p]) (upd H p o) (st ++ [c]) :=
  (r.new h).push (r.fresh h) (hc _ (Step.push (Step.new h) (.inr h)))
theorem Rel.idx (r : Rel K A ρ H st) {p : Addr} : (ρ ++ [p])[st.length]? = some p := by
  rw [← r.len, List.getElem?_append_right (Nat.le_refl _)]; simp
theorem nodup_idx {l : List Addr} (h : l.Nodup) {i j : Nat} {a : Addr} (e1 : l[i]? = some a) (e2 : l[j]? = some a) : i = j := by
  obtain ⟨h1, q1⟩ := List.getElem?_eq_some_iff.mp e1
  obtain ⟨h2, q2⟩ := List.getElem?_eq_some_iff.mp e2
  exact (List.getElem_inj h).mp (q1.trans q2.symm)
/-- a cell written -/
theorem Rel.write (r : Rel K A ρ H st) {n : Nat} {a : Addr} (e : ρ[n]? = some a) {o u : HO} (h : H a = some u) (hu : Mut (some u)) {c : Cell} (hc : ∀ s : Step K ρ H ρ (upd H a o), RC K A ρ (upd H a o) a c) : Rel K A ρ (upd H a o) (st.set n c) := by
  have hr : a ∈ ρ := List.mem_of_getElem? e
  refine ⟨by rw [List.length_set]; exact r.len, r.nd, fun i b d e1 e2 => ?_⟩
  by_cases hi : i = n
  · subst hi
    rw [e] at e1; cases e1
    have hl : i < st.length := by rw [← r.len]; exact (List.getElem?_eq_some_iff.mp e).1
    rw [List.getElem?_set_self hl] at e2
    cases e2
    exact hc (Step.write hr h hu)
  · rw [List.getElem?_set_ne (Ne.symm hi)] at e2
    refine (r.cell i b d e1 e2).step (Step.write hr h hu) (upd_ne fun q => hi ?_)
    subst q
    exact nodup_idx r.nd e1 e

/-! ### values -/
theorem RTs.length : ∀ {vs : List V} {ts : List T}, RTs K A ρ H vs ts → vs.length = ts.length
  | _, _, .nil => rfl
  | _, _, .cons _ r => by simp [RTs.length r]
theorem RTs.get : ∀ {vs : List V} {ts : List T} {i : Nat} {t : T}, RTs K A ρ H vs ts → ts[i]? = some t → ∃ v, vs[i]? = some v ∧ RT K A ρ H v t
  | _, _, _, _, .nil, e => by simp at e
  | _, _, 0, _, .cons r _, e => by simp at e; subst e; exact ⟨_, rfl, r⟩
  | _, _, i + 1, _, .cons _ rs, e => by
    obtain ⟨v, h1, h2⟩ := RTs.get (i := i) rs (by simpa using e)
    exact ⟨v, by simpa using h1, h2⟩
theorem RTs.append : ∀ {vs ws : List V} {ts us : List T}, RTs K A ρ H vs ts → RTs K A ρ H ws us → RTs K A ρ H (vs ++ ws) (ts ++ us)
  | _, _, _, _, .nil, h => h
  | _, _, _, _, .cons r rs, h => .cons r (RTs.append rs h)
theorem RTs.drop : ∀ {vs : List V} {ts : List T} (n : Nat), RTs K A ρ H vs ts → RTs K A ρ H (vs.drop n) (ts.drop n)
  | _, _, 0, h => h
  | _, _, _ + 1, .nil => .nil
  | _, _, n + 1, .cons _ rs => RTs.drop n rs
theorem RTs.take : ∀ {vs : List V} {ts : List T} (n : Nat), RTs K A ρ H vs ts → RTs K A ρ H (vs.take n) (ts.take n)
  | _, _, 0, _ => .nil
  | _, _, _ + 1, .nil => .nil
  | _, _, n + 1, .cons r rs => .cons r (RTs.take n rs)
theorem RTs.set : ∀ {vs : List V} {ts : List T} {v : V} {t : T} (n : Nat), RTs K A ρ H vs ts → RT K A ρ H v t → RTs K A ρ H (vs.set n v) (ts.set n t)
  | _, _, _, _, _, .nil, _ => .nil
  | _, _, _, _, 0, .cons _ rs, h => .cons h rs
  | _, _, _, _, n + 1, .cons r rs, h => .cons r (RTs.set n rs h)
theorem RTs.rev {vs : List V} {ts : List T} (h : RTs K A ρ H vs ts) : RTs K A ρ H vs.reverse ts.reverse := by
  induction vs generalizing ts with
  | nil => cases h; exact .nil
  | cons v vs ih =>
    cases h with
    | cons r rs =>
      rw [List.reverse_cons, List.reverse_cons]
      exact RTs.append (ih rs) (.cons r .nil)
theorem RTs.mem {vs : List V} {ts : List T} (h : RTs K A ρ H vs ts) {v : V} (hv : v ∈ vs) : ∃ t, t ∈ ts ∧ RT K A ρ H v t := by
  induction vs generalizing ts with
  | nil => cases hv
  | cons w ws ih =>
    cases h with
    | cons r rs =>
      rcases List.mem_cons.mp hv with rfl | hv
      · exact ⟨_, List.mem_cons_self, r⟩
      · obtain ⟨t, ht, q⟩ := ih rs hv
        exact ⟨t, List.mem_cons_of_mem _ ht, q⟩
theorem RTs.flatten_rep {vs : List V} {ts : List T} (h : RTs K A ρ H vs ts) : ∀ n : Nat, RTs K A ρ H (List.replicate n vs).flatten (List.replicate n ts).flatten
  | 0 => .nil
  | n + 1 => by
    rw [List.replicate_succ, List.replicate_succ, List.flatten_cons, List.flatten_cons]
    exact RTs.append h (RTs.flatten_rep h n)
end
end PF

end

section
set_option Elab.async false
set_option linter.all false
set_option maxRecDepth 100000
set_option maxHeartbeats 2000000
set_option autoImplicit false
/-! PfB2: the operations on values, by the layer's rules. -/
namespace PF
open PySem L2 PySem.Spec PyProof.Rows

/-- two values in, by the store: what is asked -/
def r2 (K : PySem.W.Frag) (A : Ad) (g : T → T → Store → R T) : R2 := fun x y H Q => ∃ ρ st t u W, Rel K A ρ H st ∧ RT K A ρ H x t ∧ RT K A ρ H y u ∧ OkG K A (RT K A) ρ H (g t u st) Q W
def r1 (K : PySem.W.Frag) (A : Ad) (g : T → Store → R T) : V → Hp → VK → Prop := fun x H Q => ∃ ρ st t W, Rel K A ρ H st ∧ RT K A ρ H x t ∧ OkG K A (RT K A) ρ H (g t st) Q W
def rL (K : PySem.W.Frag) (A : Ad) (g : List T → Store → R T) : List V → Hp → VK → Prop := fun xs H Q => ∃ ρ st ts W, Rel K A ρ H st ∧ RTs K A ρ H xs ts ∧ OkG K A (RT K A) ρ H (g ts st) Q W

section
variable {K : PySem.W.Frag} {A : Ad} {ρ : List Addr} {H : Hp} {st : Store}
theorem strOk_append {x y : Str} (h1 : PyData.strOk x = true) (h2 : PyData.strOk y = true) : PyData.strOk (x ++ y) = true := by
  unfold PyData.strOk at *
  show (x.cps ++ y.cps).all _ = true
  rw [Array.all_append, h1, h2]; rfl
theorem Rel.lstAt (R : Rel K A ρ H st) {n : Nat} {a : Addr} {xs : List T} (e : ρ[n]? = some a) (h : st[n]? = some (.lst xs)) : ∃ vs, H a = some (.lst vs) ∧ RTs K A ρ H vs xs := R.cell n a _ e h
theorem Rel.dicAt (R : Rel K A ρ H st) {n : Nat} {a : Addr} {kvs : List (T × T)} (e : ρ[n]? = some a) (h : st[n]? = some (.dic kvs)) : ∃ ks, H a = some (.dK ks) ∧ RKs K A ρ H ks kvs := R.cell n a _ e h
/-- a new list -/
theorem OkG.newLst {vs : List V} {ts : List T} {Q : V → Hp → Prop} {W : Value → Option Addr → Hp → Prop} (R : Rel K A ρ H st) (r : RTs K A ρ H vs ts) (h : OkG K A (RT K A) ρ H (alloc st (.lst ts)) Q W) : ∀ p, H p = none → Q (.ref p) (upd H p (.lst vs)) := by
  intro p hp
  refine h (.ref p) (upd H p (.lst vs)) (ρ ++ [p]) (Step.push (Step.new hp) (.inr hp)) (R.alloc hp fun ρ' s => ⟨vs, upd_same, r.step s⟩) (.ref R.idx)
/-- a new dict -/
theorem OkG.newDic {ks : List (Key × V)} {kvs : List (T × T)} {Q : V → Hp → Prop} {W : Value → Option Addr → Hp → Prop} (R : Rel K A ρ H st) (r : RKs K A ρ H ks kvs) (h : OkG K A (RT K A) ρ H (alloc st (.dic kvs)) Q W) : ∀ p, H p = none → Q (.ref p) (upd H p (.dK ks)) := by
  intro p hp
  refine h (.ref p) (upd H p (.dK ks)) (ρ ++ [p]) (Step.push (Step.new hp) (.inr hp)) (R.alloc hp fun ρ' s => ⟨ks, upd_same, r.step s⟩) (.ref R.idx)
/-- what is wanted of a value, or of one that may be locked for good -/
def Fz (Q : V → Hp → Prop) : V → Hp → Prop := fun x H => Q x H ∨ ∃ p u, x = .ref p ∧ H p = some u ∧ Mut (some u) ∧ ∀ od, Q x (upd H p (.frz od u))
theorem OkG.newL {m : Bool} {vs : List V} {ts : List T} {Q : V → Hp → Prop} {W : Value → Option Addr → Hp → Prop} (R : Rel K A ρ H st) (r : RTs K A ρ H vs ts) (h : OkG K A (RT K A) ρ H (newL m ts st) Q W) : ∀ p, H p = none → Fz Q (.ref p) (upd H p (.lst vs)) := by
  intro p hp
  unfold PF.newL at h
  split at h
  · exact .inl (h.newLst R r p hp)
  · refine .inr ⟨p, _, rfl, upd_same, True.intro, fun od => ?_⟩
    rw [upd_upd]
    exact h _ _ ρ (Step.new hp) (R.new hp) (.rol (.inl ⟨od, upd_same⟩) (r.step (Step.new hp)))
theorem OkG.newF {vs : List V} {ts : List T} {Q : V → Hp → Prop} {W : Value → Option Addr → Hp → Prop} (R : Rel K A ρ H st) (r : RTs K A ρ H vs ts) (h : OkG K A (RT K A) ρ H (.ok (.rol ts) st) Q W) : ∀ p, H p = none → Fz Q (.ref p) (upd H p (.lst vs)) :=
  OkG.newL (m := false) R r h
theorem OkG.newD {m : Bool} {ks : List (Key × V)} {kvs : List (T × T)} {Q : V → Hp → Prop} {W : Value → Option Addr → Hp → Prop} (R : Rel K A ρ H st) (r : RKs K A ρ H ks kvs) (h : OkG K A (RT K A) ρ H (newD m kvs st) Q W) : ∀ p, H p = none → Fz Q (.ref p) (upd H p (.dK ks)) := by
  intro p hp
  unfold PF.newD at h
  split at h
  · exact .inl (h.newDic R r p hp)
  · refine .inr ⟨p, _, rfl, upd_same, True.intro, fun od => ?_⟩
    rw [upd_upd]
    exact h _ _ ρ (Step.new hp) (R.new hp) (.rod ⟨od, upd_same⟩ (r.step (Step.new hp)))
/-- a list that was written while it was made: now it is a cell, or locked for good -/
theorem OkG.made {m : Bool} {p : Addr} {vs : List V} {ts : List T} {ρ2 : List Addr} {H2 : Hp} {st2 : Store} {Q : V → Hp → Prop} {W : Value → Option Addr → Hp → Prop} (hp : H p = none) (s2 : Step K ρ H ρ2 H2) (np : p ∉ ρ2) (g : H2 p = some (.lst vs)) (R2 : Rel K A ρ2 H2 st2) (r : RTs K A ρ2 H2 vs ts)
    (h : OkG K A (RT K A) ρ H (PF.newL m ts st2) Q W) : Fz Q (.ref p) H2 := by
  unfold PF.newL at h
  split at h
  · refine .inl (h (.ref p) H2 (ρ2 ++ [p]) (s2.push (.inr hp)) (R2.push np ⟨vs, g, r.app⟩) (.ref R2.idx))
  · exact .inr ⟨p, _, rfl, g, True.intro, fun od => h _ _ ρ2 (s2.off hp) (R2.off np g True.intro) (.rol (.inl ⟨od, upd_same⟩) (r.off g True.intro))⟩
theorem OkG.madeD {m : Bool} {p : Addr} {ks : List (Key × V)} {kvs : List (T × T)} {ρ2 : List Addr} {H2 : Hp} {st2 : Store} {Q : V → Hp → Prop} {W : Value → Option Addr → Hp → Prop} (hp : H p = none) (s2 : Step K ρ H ρ2 H2) (np : p ∉ ρ2) (g : H2 p = some (.dK ks)) (R2 : Rel K A ρ2 H2 st2) (r : RKs K A ρ2 H2 ks kvs)
    (h : OkG K A (RT K A) ρ H (PF.newD m kvs st2) Q W) : Fz Q (.ref p) H2 := by
  unfold PF.newD at h
  split at h
  · refine .inl (h (.ref p) H2 (ρ2 ++ [p]) (s2.push (.inr hp)) (R2.push np ⟨ks, g, r.app⟩) (.ref R2.idx))
  · exact .inr ⟨p, _, rfl, g, True.intro, fun od => h _ _ ρ2 (s2.off hp) (R2.off np g True.intro) (.rod ⟨od, upd_same⟩ (r.off g True.intro))⟩
theorem EP_fz {X : Cx} {pins : List (Addr × Obj)} {σ : L2.St} {Q : VK} {u : Value} {s : Shared} (h : EP X pins σ (Fz Q) u s) : EP X pins σ Q u s := by
  obtain ⟨v, H', I, r, q⟩ := h
  rcases q with q | ⟨p, o, rfl, e, m, q⟩
  · exact ⟨v, H', I, r, q⟩
  · obtain ⟨od, I2⟩ := I.lock e m
    exact ⟨_, _, I2, r, q od⟩
theorem wp_fz {α : Type} {X : Cx} {pins : List (Addr × Obj)} {σ : L2.St} {Q : VK} {s : Shared} {m : Sem Value} {E : Value → Shared → Prop} (h : wpAny (model X.prog X.w) X.A m (EP X pins σ (Fz Q)) E s) : wpAny (model X.prog X.w) X.A m (EP X pins σ Q) E s :=
  wpAny_mono h (fun _ _ q => EP_fz q) fun _ _ q => q
theorem pe_fz {X : Cx} {e : Expr} {t : TE} (h : PE X e t) : PE X e (fun σ H Q => t σ H (Fz Q)) := ⟨fun pins s σ H Q I q => wp_fz (α := Unit) (h.run pins s σ H (Fz Q) I q)⟩
/-- the items of a list or a tuple -/
theorem Rel.seq (R : Rel K A ρ H st) {v : V} {t : T} {xs : List T} (r : RT K A ρ H v t) (h : seqOf st t = some xs) : ∃ a vs, v = .ref a ∧ (SqL K H a vs ∨ SqT K H a vs) ∧ RTs K A ρ H vs xs := by
  cases r <;> simp only [seqOf, reduceCtorEq] at h
  · cases h; exact ⟨_, _, rfl, .inr (by assumption), by assumption⟩
  · cases h; rename_i k q; exact ⟨_, _, rfl, .inl k.sql, q⟩
  · cases h; rename_i k q; obtain ⟨o, k, _⟩ := k.ex; exact ⟨_, _, rfl, .inr (.inl (.inr ⟨o, k⟩)), q⟩
  · rename_i k
    split at h
    · rename_i ys ey
      cases h
      obtain ⟨vs, g, q⟩ := R.lstAt k ey
      exact ⟨_, vs, rfl, .inl (SqL.of g), q⟩
    · cases h
theorem Rel.lst (R : Rel K A ρ H st) {v : V} {t : T} {xs : List T} (r : RT K A ρ H v t) (h : lstOf st t = some xs) : ∃ a vs, v = .ref a ∧ SqL K H a vs ∧ RTs K A ρ H vs xs := by
  cases r <;> simp only [lstOf, reduceCtorEq] at h
  · cases h; rename_i k q; exact ⟨_, _, rfl, k.sql, q⟩
  · rename_i k
    split at h
    · rename_i ys ey
      cases h
      obtain ⟨vs, g, q⟩ := R.lstAt k ey
      exact ⟨_, vs, rfl, SqL.of g, q⟩
    · cases h
theorem Rel.map (R : Rel K A ρ H st) {v : V} {t : T} {kvs : List (T × T)} (r : RT K A ρ H v t) (h : mapOf st t = some kvs) : ∃ a ks, v = .ref a ∧ Rd H a (.dK ks) ∧ RKs K A ρ H ks kvs := by
  cases r <;> simp only [mapOf, reduceCtorEq] at h
  · cases h; rename_i k q; obtain ⟨o, k⟩ := k; exact ⟨_, _, rfl, .inr ⟨o, k⟩, q⟩
  · rename_i k
    split at h
    · rename_i ys ey
      cases h
      obtain ⟨vs, g, q⟩ := R.dicAt k ey
      exact ⟨_, vs, rfl, .inl g, q⟩
    · cases h
/-- a new tuple -/
theorem OkG.newTup {vs : List V} {ts : List T} {Q : V → Hp → Prop} {W : Value → Option Addr → Hp → Prop} (R : Rel K A ρ H st) (r : RTs K A ρ H vs ts) (h : OkG K A (RT K A) ρ H (.ok (.tup ts) st) Q W) : ∀ p, H p = none → Q (.ref p) (upd H p (.tup vs)) := by
  intro p hp
  exact h (.ref p) (upd H p (.tup vs)) ρ (Step.new hp) (R.new hp) (.tup (SqT.of upd_same) (r.step (Step.new hp)))
theorem OkG.same {t : T} {v : V} {Q : V → Hp → Prop} {W : Value → Option Addr → Hp → Prop} (R : Rel K A ρ H st) (r : RT K A ρ H v t) (h : OkG K A (RT K A) ρ H (.ok t st) Q W) : Q v H := h v H ρ .refl R r
theorem RTs.nil_iff {vs : List V} {ts : List T} (r : RTs K A ρ H vs ts) : vs = [] ↔ ts = [] := by
  cases r with
  | nil => simp
  | cons _ _ => simp

/-! ### data -/
mutual
theorem RT.dp : ∀ {v : V} {t : T} {d : PyData}, RT K A ρ H v t → toD t = some d → Dp K H v d
  | _, _, _, .non, e => by simp [toD] at e; subst e; exact .non
  | _, _, _, .bl b, e => by simp [toD] at e; subst e; exact .bl b
  | _, _, _, .int i, e => by simp [toD] at e; subst e; exact .int i
  | _, _, _, .str s _, e => by simp [toD] at e; subst e; exact .str s
  | _, _, _, .tup h r, e => by
    simp only [toD, Option.map_eq_some_iff] at e
    obtain ⟨ds, e1, e2⟩ := e
    subst e2
    exact .tup h (RTs.dp r e1)
  | _, _, _, .rol h r, e => by
    simp only [toD, Option.map_eq_some_iff] at e
    obtain ⟨ds, e1, e2⟩ := e
    subst e2
    exact .lst h.sql (RTs.dp r e1)
  | _, _, _, .ctp _ _, e => by simp [toD] at e
  | _, _, _, .rod _ _, e => by simp [toD] at e
  | _, _, _, .ref _, e => by simp [toD] at e
  | _, _, _, .fn _, e => by simp [toD] at e
theorem RTs.dp : ∀ {vs : List V} {ts : List T} {ds : List PyData}, RTs K A ρ H vs ts → toDs ts = some ds → DpAll K H vs ds
  | _, _, _, .nil, e => by simp [toDs] at e; subst e; exact .nil
  | _, _, _, .cons (t := t) (ts := ts) r rs, e => by
    simp only [toDs] at e
    cases h1 : toD t with
    | none => simp [h1] at e
    | some d =>
      cases h2 : toDs ts with
      | none => simp [h1, h2] at e
      | some ds' =>
        simp [h1, h2] at e
        subst e
        exact .cons (RT.dp r h1) (RTs.dp rs h2)
end
mutual
theorem RT.lay : ∀ {v : V} {t : T} {d : PyData}, RT K A ρ H v t → toD t = some d → d.canLay0 = true
  | _, _, _, .non, e => by simp [toD] at e; subst e; rfl
  | _, _, _, .bl b, e => by simp [toD] at e; subst e; rfl
  | _, _, _, .int i, e => by simp [toD] at e; subst e; rfl
  | _, _, _, .str s h, e => by simp [toD] at e; subst e; simp only [PyData.canLay0]; exact h
  | _, _, _, .tup h r, e => by
    simp only [toD, Option.map_eq_some_iff] at e
    obtain ⟨ds, e1, e2⟩ := e
    subst e2
    simp only [PyData.canLay0]; exact RTs.lay r e1
  | _, _, _, .rol h r, e => by
    simp only [toD, Option.map_eq_some_iff] at e
    obtain ⟨ds, e1, e2⟩ := e
    subst e2
    simp only [PyData.canLay0]; exact RTs.lay r e1
  | _, _, _, .ctp _ _, e => by simp [toD] at e
  | _, _, _, .rod _ _, e => by simp [toD] at e
  | _, _, _, .ref _, e => by simp [toD] at e
  | _, _, _, .fn _, e => by simp [toD] at e
theorem RTs.lay : ∀ {vs : List V} {ts : List T} {ds : List PyData}, RTs K A ρ H vs ts → toDs ts = some ds → PyData.canLayAll0 ds = true
  | _, _, _, .nil, e => by simp [toDs] at e; subst e; rfl
  | _, _, _, .cons (t := t) (ts := ts) r rs, e => by
    simp only [toDs] at e
    cases h1 : toD t with
    | none => simp [h1] at e
    | some d =>
      cases h2 : toDs ts with
      | none => simp [h1, h2] at e
      | some ds' =>
        simp [h1, h2] at e
        subst e
        simp only [PyData.canLayAll0, Bool.and_eq_true]
        exact ⟨RT.lay r h1, RTs.lay rs h2⟩
end
theorem RT.res (R : Rel K A ρ H st) {v : V} {t : T} {d : PyData} (r : RT K A ρ H v t) (e : resD st t = some d) : Dp K H v d ∧ d.canLay0 = true := by
  cases r with
  | ref h =>
    simp only [resD] at e
    split at e
    · rename_i xs hx
      obtain ⟨ds, e1, e2⟩ := Option.map_eq_some_iff.mp e
      subst e2
      obtain ⟨vs, hH, rs⟩ := R.lstAt h hx
      refine ⟨.lst (SqL.of hH) (rs.dp e1), ?_⟩
      simp only [PyData.canLay0]; exact rs.lay e1
    · cases e
  | non => exact ⟨RT.dp (ρ := ρ) (A := A) .non e, RT.lay (ρ := ρ) (H := H) (K := K) (A := A) .non e⟩
  | bl b => exact ⟨RT.dp (ρ := ρ) (A := A) (.bl b) e, RT.lay (ρ := ρ) (H := H) (K := K) (A := A) (.bl b) e⟩
  | int b => exact ⟨RT.dp (ρ := ρ) (A := A) (.int b) e, RT.lay (ρ := ρ) (H := H) (K := K) (A := A) (.int b) e⟩
  | str s h => exact ⟨RT.dp (ρ := ρ) (A := A) (.str s h) e, RT.lay (ρ := ρ) (H := H) (K := K) (A := A) (.str s h) e⟩
  | tup h r => exact ⟨RT.dp (.tup h r) e, RT.lay (.tup h r) e⟩
  | rol h r => exact ⟨RT.dp (.rol h r) e, RT.lay (.rol h r) e⟩
  | ctp h r => simp [resD, toD] at e
  | rod h r => simp [resD, toD] at e
  | fn h => simp [resD, toD] at e
end

section
variable {X : Cx} {A : Ad}
theorem op_fdivZ : OpR X (binaryOp .FloorDiv) (rI (fun _ j => j ≠ 0 ∧ j.natAbs.log2 < 9000) fun i j => .int (i.fdiv j)) := opI fun _ _ _ _ _ _ _ hc q => floordiv_int hc.1 q (.inl (PyProof.noPylong_of_log2 hc.2))
theorem ladd {l b : Addr} {xs ys : Array Value} {n k : Nat} {sl1 sl2 : Array (Option Value)} (fit : xs.size + ys.size ≤ sizeLine) :
    Meets (Builtin.«list.__add__» ⟨[.ref l, .ref b], []⟩) (fun _ R s => s.heap.get? l = some ⟨.type "list", none, .seq xs n, sl1⟩ ∧ s.heap.get? b = some ⟨.type "list", none, .seq ys k, sl2⟩ ∧
      R (.ok (.ret (Value.ref s.heap.objs.size))) { s with heap := s.heap.push { cls := Value.type "list", data := Data.seq (xs ++ ys) }, toks := s.toks }) :=
  .of_wp fun prog w A R s h => by
    obtain ⟨hp, g, d, tk, os⟩ := s; obtain ⟨hl, hb, h⟩ := h
    have z1 := AutoSeq1.idx_int; have z2 := AutoSeq1.sub_tuple_tuple; have z3 := AutoSeq1.sub_list_list; have z4 := AutoSeq1.sub_tuple_list; have z5 := AutoSeq1.sub_list_tuple
    wp_walk using AutoSeq1.wpAny_loadPart' hl, AutoSeq1.wpAny_loadPart' hb; exact ⟨_, rfl, h⟩
theorem PlainL.rec_ {h : Heap} {a : Addr} {its : Array Value} (p : PlainL h a its) : ∃ n sl, h.get? a = some ⟨.type "list", none, .seq its n, sl⟩ := by
  obtain ⟨⟨c, d, dt, sl⟩, n, e, e1, e2, e3⟩ := p
  simp only at e1 e2 e3
  subst e1; subst e2; subst e3
  exact ⟨n, sl, e⟩
/-- lists of any kind joined -/
def rCatF (K : PySem.W.Frag) : R2 := fun x y H Q => ∃ a b xs ys, x = .ref a ∧ y = .ref b ∧ SqL K H a xs ∧ SqL K H b ys ∧ xs.length + ys.length ≤ sizeLine ∧ ∀ p, H p = none → Q (.ref p) (upd H p (.lst (xs ++ ys)))
theorem op_catF : OpR X (binaryOp .Add) (rCatF X.K) := by
  intro pins s σ H x y v u Q I rx ry h
  obtain ⟨a, b, xs, ys, rfl, rfl, ha, hb, hz, q⟩ := h
  cases rx; cases ry
  obtain ⟨i1, r1, p1, _⟩ := I.list ha
  obtain ⟨i2, r2, p2, _⟩ := I.list hb
  obtain ⟨n1, sl1, e1⟩ := PlainL.rec_ p1
  obtain ⟨n2, sl2, e2⟩ := PlainL.rec_ p2
  have l1 := r1.length
  have l2 := r2.length
  refine concat_meets ⟨_, e1, rfl⟩ ⟨_, e2, rfl⟩ noFill_list_add seq_list_add PySem.F.slot_list_add PySem.F.entry_list_add (PySem.F.args_list_add_2 _ _) (ladd (by rw [List.size_toArray, List.size_toArray]; omega)) ⟨e1, e2, ?_⟩
  have ea : i1.toArray ++ i2.toArray = (i1 ++ i2).toArray := by simp
  rw [ea]
  exact ⟨.ref _, _, I.lnew (t' := s.toks) (r1.append r2) (by rw [List.length_append]; omega), rfl, q _ I.fresh⟩
theorem op_binT (op : Operator) : OpR X (binaryOp op) (r2 X.K A (binT op)) := by
  intro pins s σ H x y v u Q I rx ry h
  obtain ⟨ρ, st, t, t', W, R, h1, h2, h⟩ := h
  unfold binT at h
  split at h
  · cases h1; cases h2; exact op_add pins s σ H _ _ v u Q I rx ry ⟨_, _, rfl, rfl, h.same R (.int _)⟩
  · cases h1; cases h2; exact op_sub pins s σ H _ _ v u Q I rx ry ⟨_, _, rfl, rfl, h.same R (.int _)⟩
  · cases h1; cases h2
    split at h
    · rename_i c
      rw [mulOk, Bool.or_eq_true] at c
      rcases c with c | c
      · exact op_mul pins s σ H _ _ v u Q I rx ry ⟨_, _, rfl, rfl, (by
          rw [Bool.or_eq_true, inS_iff, inS_iff] at c; unfold P64 at c; simp only [CMul]; omega), h.same R (.int _)⟩
      · exact op_mulW pins s σ H _ _ v u Q I rx ry ⟨_, _, rfl, rfl, by
          rw [Nat.blt_eq] at c; exact c, h.same R (.int _)⟩
    · exact h.elim
  · cases h1; cases h2
    split at h
    · rename_i c
      exact op_fdiv pins s σ H _ _ v u Q I rx ry ⟨_, _, rfl, rfl, ⟨c.1, by have := (inS_iff.mp c.2).2; unfold P30 at this; omega⟩, h.same R (.int _)⟩
    · split at h
      · rename_i c
        exact op_fdivZ pins s σ H _ _ v u Q I rx ry ⟨_, _, rfl, rfl, ⟨c.1, by have := c.2; rw [Nat.blt_eq] at this; exact this⟩, h.same R (.int _)⟩
      · exact h.elim
  · cases h1; cases h2
    split at h
    · rename_i c
      exact op_mod pins s σ H _ _ v u Q I rx ry ⟨_, _, rfl, rfl, c, h.same R (.int _)⟩
    · exact h.elim
  · cases h1 with | str _ k1 => cases h2 with | str _ k2 =>
    split at h
    · rename_i c
      exact op_add_str pins s σ H _ _ v u Q I rx ry ⟨_, _, rfl, rfl, c, h.same R (.str _ (strOk_append k1 k2))⟩
    · exact h.elim
  · cases h1 with | tup k1 q1 => cases h2 with | tup k2 q2 =>
    split at h
    · rename_i c
      refine op_catA pins s σ H _ _ v u Q I rx ry ⟨_, _, _, _, rfl, rfl, k1, k2, by rw [q1.length, q2.length]; exact c, fun e => ?_, fun e1 e2 => ?_, fun e1 e2 => ?_⟩
      · rw [q1.nil_iff.mp e, List.nil_append] at h
        exact h.same R (.tup k2 q2)
      · rw [q2.nil_iff.mp e2, List.append_nil] at h
        exact h.same R (.tup k1 q1)
      · exact h.newTup R (q1.append q2)
    · exact h.elim
  · split at h
    · rename_i xs ys e1 e2
      obtain ⟨a1, vs, rfl, g1, q1⟩ := R.lst h1 e1
      obtain ⟨a2, ws, rfl, g2, q2⟩ := R.lst h2 e2
      split at h
      · rename_i c
        exact wp_fz (α := Unit) (op_catF pins s σ H _ _ v u (Fz Q) I rx ry ⟨_, _, _, _, rfl, rfl, g1, g2, by rw [q1.length, q2.length]; exact c, h.newF R (q1.append q2)⟩)
      · exact h.elim
    · exact h.elim
  · exact h.elim

/-! ### comparisons -/
def cmpR (op : CmpOp) (t u : T) (st : Store) : R T := R.ofOpt st ((cmpT op t u st).map .bl)
theorem okOpt {ρ : List Addr} {H : Hp} {st : Store} {o : Option Bool} {Q : VK} {W : Value → Option Addr → Hp → Prop} (R : Rel X.K A ρ H st) (h : OkG X.K A (RT X.K A) ρ H (PF.R.ofOpt st (o.map .bl)) Q W) : ∃ b, o = some b ∧ Q (.bl b) H := by
  cases o with
  | none => exact h.elim
  | some b => exact ⟨b, rfl, OkG.same R (.bl b) h⟩
theorem eqT_ok {ρ : List Addr} {H : Hp} {st : Store} {x y : V} {t u : T} {b : Bool} (R : Rel X.K A ρ H st) (h1 : RT X.K A ρ H x t) (h2 : RT X.K A ρ H y u) (e : eqT st t u = some b) :
    ∃ d e, Dp X.K H x d ∧ Dp X.K H y e ∧ d.canLay0 = true ∧ e.canLay0 = true ∧ min d.depth e.depth ≤ 190 ∧ b = d.eqv e := by
  unfold eqT at e
  split at e
  · rename_i d d' e1 e2
    split at e
    · rename_i c
      cases e
      obtain ⟨p1, p2⟩ := h1.res R e1
      obtain ⟨p3, p4⟩ := h2.res R e2
      exact ⟨d, d', p1, p3, p2, p4, c, rfl⟩
    · cases e
  · cases e
theorem op_eqR (hu : X.A.units + 190 < cLine) {x y : V} {v u : Value} {pins : List (Addr × Obj)} {s : Shared} {σ : L2.St} {H : Hp} {Q : VK} (I : Inv X pins σ H s) (rx : RelV x v) (ry : RelV y u) {d e : PyData}
    (h1 : Dp X.K H x d) (h2 : Dp X.K H y e) (l1 : d.canLay0 = true) (l2 : e.canLay0 = true) (hd : min d.depth e.depth ≤ 190) (q : Q (.bl (d.eqv e)) H) : wpAny (model X.prog X.w) X.A (compareOp .Eq v u) (EP X pins σ Q) X.xe s := by
  obtain ⟨as, r1⟩ := Dp.reads I d x v h1 rx
  obtain ⟨bs, r2⟩ := Dp.reads I e y u h2 ry
  exact SeqAt.compareEq_reads r1 r2 l1 l2 (by omega) ⟨.bl _, H, I, rfl, q⟩
theorem op_neR (hu : X.A.units + 190 < cLine) {x y : V} {v u : Value} {pins : List (Addr × Obj)} {s : Shared} {σ : L2.St} {H : Hp} {Q : VK} (I : Inv X pins σ H s) (rx : RelV x v) (ry : RelV y u) {d e : PyData}
    (h1 : Dp X.K H x d) (h2 : Dp X.K H y e) (l1 : d.canLay0 = true) (l2 : e.canLay0 = true) (hd : min d.depth e.depth ≤ 190) (q : Q (.bl (!d.eqv e)) H) : wpAny (model X.prog X.w) X.A (compareOp .NotEq v u) (EP X pins σ Q) X.xe s := by
  obtain ⟨as, r1⟩ := Dp.reads I d x v h1 rx
  obtain ⟨bs, r2⟩ := Dp.reads I e y u h2 ry
  exact SeqAt.compareNe_reads r1 r2 l1 l2 (by omega) ⟨.bl _, H, I, rfl, q⟩

/-! ### tables -/
theorem key_of_T {K : PySem.W.Frag} {ρ : List Addr} {H : Hp} {x : V} {t : T} (h : RT K A ρ H x t) (k : isKey t = true) : ∃ j : Key, x = kV j := by
  cases h <;> simp [isKey] at k
  · exact ⟨.inl _, rfl⟩
  · exact ⟨.inr _, rfl⟩
theorem keyEq_iff {K : PySem.W.Frag} {ρ : List Addr} {H : Hp} {j k : Key} {t u : T} (h1 : RT K A ρ H (kV j) t) (h2 : RT K A ρ H (kV k) u) : keyEq t u = decide (k = j) := by
  cases j with
  | inl i =>
    cases h1
    cases k with
    | inl i2 => cases h2; simp only [keyEq]; by_cases e : i = i2
                · subst e; simp
                · have : ¬ (Sum.inl i2 : Key) = Sum.inl i := fun q => e (Sum.inl.inj q).symm
                  rw [decide_eq_false e, decide_eq_false this]
    | inr x => cases h2; rfl
  | inr x =>
    cases h1
    cases k with
    | inl i2 => cases h2; rfl
    | inr y => cases h2; simp only [keyEq]; by_cases e : x = y
               · subst e; simp
               · have : ¬ (Sum.inr y : Key) = Sum.inr x := fun q => e (Sum.inr.inj q).symm
                 rw [decide_eq_false e, decide_eq_false this]
theorem dLook_val {K : PySem.W.Frag} {ρ : List Addr} {H : Hp} {j : Key} {t : T} (h : RT K A ρ H (kV j) t) : ∀ {ks : List (Key × V)} {kvs : List (T × T)}, RKs K A ρ H ks kvs →
    (valV ks j = none ∧ dLook t kvs = none) ∨ ∃ v u, valV ks j = some v ∧ dLook t kvs = some u ∧ RT K A ρ H v u
  | _, _, .nil => .inl ⟨rfl, rfl⟩
  | _, _, .cons (k := k) (v := v) (t := a) (u := u) h1 h2 r => by
    have e := keyEq_iff h h1
    by_cases c : k = j
    · refine .inr ⟨v, u, valV_pos c, ?_, h2⟩
      simp only [dLook]
      rw [e, decide_eq_true c]; rfl
    · rcases dLook_val h r with ⟨q1, q2⟩ | ⟨w, z, q1, q2, q3⟩
      · refine .inl ⟨by rw [valV_neg c]; exact q1, ?_⟩
        simp only [dLook]
        rw [e, decide_eq_false c]; exact q2
      · refine .inr ⟨w, z, by rw [valV_neg c]; exact q1, ?_, q3⟩
        simp only [dLook]
        rw [e, decide_eq_false c]; exact q2
theorem RKs.length {K : PySem.W.Frag} {ρ : List Addr} {H : Hp} : ∀ {ks : List (Key × V)} {kvs : List (T × T)}, RKs K A ρ H ks kvs → ks.length = kvs.length
  | _, _, .nil => rfl
  | _, _, .cons _ _ r => by simp [RKs.length r]
theorem RKs.append {K : PySem.W.Frag} {ρ : List Addr} {H : Hp} : ∀ {ks js : List (Key × V)} {kvs jvs : List (T × T)}, RKs K A ρ H ks kvs → RKs K A ρ H js jvs → RKs K A ρ H (ks ++ js) (kvs ++ jvs)
  | _, _, _, _, .nil, h => h
  | _, _, _, _, .cons a b r, h => .cons a b (RKs.append r h)
theorem any_keys {K : PySem.W.Frag} {ρ : List Addr} {H : Hp} {j : Key} {t : T} (h : RT K A ρ H (kV j) t) : ∀ {ks : List (Key × V)} {kvs : List (T × T)}, RKs K A ρ H ks kvs →
    (ks.any fun kv => decide (kv.1 = j)) = kvs.any fun p => keyEq t p.1
  | _, _, .nil => rfl
  | _, _, .cons h1 h2 r => by
    rw [List.any_cons, List.any_cons, any_keys h r, keyEq_iff h h1]
theorem map_keys {K : PySem.W.Frag} {ρ : List Addr} {H : Hp} {j : Key} {t u : T} {v : V} (h : RT K A ρ H (kV j) t) (hv : RT K A ρ H v u) : ∀ {ks : List (Key × V)} {kvs : List (T × T)}, RKs K A ρ H ks kvs →
    RKs K A ρ H (ks.map fun kv => if kv.1 = j then (kv.1, v) else kv) (kvs.map fun p => if keyEq t p.1 then (p.1, u) else p)
  | _, _, .nil => .nil
  | _, _, .cons (k := k) h1 h2 r => by
    rw [List.map_cons, List.map_cons, keyEq_iff h h1]
    by_cases c : k = j
    · rw [if_pos c, decide_eq_true c, if_pos rfl]
      exact .cons h1 hv (map_keys h hv r)
    · rw [if_neg c, decide_eq_false c, if_neg Bool.false_ne_true]
      exact .cons h1 h2 (map_keys h hv r)
theorem dPut_rel {K : PySem.W.Frag} {ρ : List Addr} {H : Hp} {j : Key} {t u : T} {v : V} (h : RT K A ρ H (kV j) t) (hv : RT K A ρ H v u) {ks : List (Key × V)} {kvs : List (T × T)} (r : RKs K A ρ H ks kvs) : RKs K A ρ H (putK ks j v) (dPut t u kvs) := by
  unfold putK dPut
  rw [any_keys h r]
  split
  · exact map_keys h hv r
  · exact r.append (.cons h hv .nil)

/-! ### in -/
theorem flatV_of {K : PySem.W.Frag} {ρ : List Addr} {H : Hp} {x : V} {t : T} (h : RT K A ρ H x t) (f : isFlat t = true) : flatV x = true := by
  cases h <;> simp [isFlat] at f <;> rfl
theorem eqV_eqF {K : PySem.W.Frag} {ρ : List Addr} {H : Hp} {x y : V} {t u : T} (h : RT K A ρ H x t) (f : isFlat t = true) (h' : RT K A ρ H y u) (f' : isFlat u = true) : eqV x y = eqF t u := by
  cases h <;> simp [isFlat] at f <;> cases h' <;> simp [isFlat] at f' <;> simp [eqV, eqF, toD, PyData.eqv]
theorem flatAll {K : PySem.W.Frag} {ρ : List Addr} {H : Hp} : ∀ {xs : List V} {ts : List T}, RTs K A ρ H xs ts → ts.all isFlat = true → xs.all flatV = true
  | _, _, .nil, _ => rfl
  | _, _, .cons r rs, f => by
    rw [List.all_cons, Bool.and_eq_true] at f ⊢
    exact ⟨flatV_of r f.1, flatAll rs f.2⟩
theorem inV_any {K : PySem.W.Frag} {ρ : List Addr} {H : Hp} {x : V} {t : T} (h : RT K A ρ H x t) (f : isFlat t = true) : ∀ {xs : List V} {ts : List T}, RTs K A ρ H xs ts → ts.all isFlat = true → inV x xs = ts.any fun y => eqF y t
  | _, _, .nil, _ => rfl
  | _, _, .cons r rs, g => by
    rw [List.all_cons, Bool.and_eq_true] at g
    have ih := inV_any h f rs g.2
    unfold inV at ih ⊢
    rw [List.any_cons, List.any_cons, ih, eqV_eqF r g.1 h f]

theorem op_cmpT (hu : X.A.units + 190 < cLine) (op : CmpOp) : OpR X (compareOp op) (r2 X.K A (cmpR op)) := by
  intro pins s σ H x y v u Q I rx ry h
  obtain ⟨ρ, st, t, t', W, R, h1, h2, h⟩ := h
  obtain ⟨b, e, q⟩ := okOpt R h
  cases op with
  | Eq =>
    obtain ⟨d, d', p1, p2, l1, l2, c, rfl⟩ := eqT_ok R h1 h2 e
    exact op_eqR hu I rx ry p1 p2 l1 l2 c q
  | NotEq =>
    obtain ⟨b', e', rfl⟩ := Option.map_eq_some_iff.mp e
    obtain ⟨d, d', p1, p2, l1, l2, c, rfl⟩ := eqT_ok R h1 h2 e'
    exact op_neR hu I rx ry p1 p2 l1 l2 c q
  | Lt =>
    simp only [cmpT] at e
    split at e
    · cases h1; cases h2; cases e; exact op_lt pins s σ H _ _ v u Q I rx ry ⟨_, _, rfl, rfl, q⟩
    · cases e
  | LtE =>
    simp only [cmpT] at e
    split at e
    · cases h1; cases h2; cases e; exact op_le pins s σ H _ _ v u Q I rx ry ⟨_, _, rfl, rfl, q⟩
    · cases e
  | Gt =>
    simp only [cmpT] at e
    split at e
    · cases h1; cases h2; cases e; exact op_gt pins s σ H _ _ v u Q I rx ry ⟨_, _, rfl, rfl, q⟩
    · cases e
  | GtE =>
    simp only [cmpT] at e
    split at e
    · cases h1; cases h2; cases e; exact op_ge pins s σ H _ _ v u Q I rx ry ⟨_, _, rfl, rfl, q⟩
    · cases e
  | Is =>
    simp only [cmpT] at e
    split at e
    · cases h1; cases h2; cases e
      refine op_isBl pins s σ H _ _ v u Q I rx ry ⟨_, _, rfl, rfl, ?_⟩
      rw [Bool.beq_eq_decide_eq] at q; exact q
    · cases h1; cases h2; cases e
      exact op_isN pins s σ H _ _ v u Q I rx ry ⟨rfl, q⟩
    · rename_i hne
      cases h2; cases e
      refine op_isN pins s σ H _ _ v u Q I rx ry ⟨rfl, ?_⟩
      have hx : ¬ x = V.non := fun z => by subst z; cases h1; exact hne rfl
      rw [decide_eq_false hx]; exact q
    · cases e
  | IsNot =>
    simp only [cmpT] at e
    split at e
    · cases h1; cases h2; cases e
      refine op_notBl pins s σ H _ _ v u Q I rx ry ⟨_, _, rfl, rfl, ?_⟩
      rw [bne, Bool.beq_eq_decide_eq] at q; exact q
    · cases h1; cases h2; cases e
      exact op_notN pins s σ H _ _ v u Q I rx ry ⟨rfl, q⟩
    · rename_i hne
      cases h2; cases e
      refine op_notN pins s σ H _ _ v u Q I rx ry ⟨rfl, ?_⟩
      have hx : ¬ x = V.non := fun z => by subst z; cases h1; exact hne rfl
      rw [decide_eq_false hx]; exact q
    · cases e
  | In =>
    simp only [cmpT, inT] at e
    split at e
    · rename_i xs ex
      obtain ⟨a, vs, rfl, g, rs⟩ := R.seq h2 ex
      split at e
      · rename_i c
        rw [Bool.and_eq_true] at c
        cases e
        refine op_in_seq pins s σ H _ _ v u Q I rx ry ⟨_, vs, rfl, g, flatV_of h1 c.1, flatAll rs c.2, ?_⟩
        rw [if_neg Bool.false_ne_true, inV_any h1 c.1 rs c.2]; exact q
      · split at e
        · rename_i d ds e1 e2
          split at e
          · rename_i c
            cases e
            obtain ⟨bs, q1⟩ := Dp.reads I d _ _ (h1.dp e1) rx
            rcases g with g | g
            · obtain ⟨as, q2⟩ := Dp.reads I (.list ds) _ _ (.lst g (rs.dp e2)) ry
              exact SeqAt.in_list_reads q2 q1 (rs.lay e2) (h1.lay e1) (by omega) ⟨.bl _, H, I, rfl, q⟩
            · obtain ⟨as, q2⟩ := Dp.reads I (.tuple ds) _ _ (.tup g (rs.dp e2)) ry
              exact SeqAt.in_tuple_reads q2 q1 (rs.lay e2) (h1.lay e1) (by omega) ⟨.bl _, H, I, rfl, q⟩
          · cases e
        · cases e
    · split at e
      · rename_i kvs ex
        split at e
        · rename_i c
          cases e
          obtain ⟨a, ks, rfl, g, rs⟩ := R.map h2 ex
          obtain ⟨j, rfl⟩ := key_of_T h1 c
          obtain rfl : u = Value.ref _ := ry
          refine d_in (by omega) I (.inl ⟨ks, j, g, rfl, rfl⟩) rx fun s' I' => ⟨.bl _, H, I', rfl, ?_⟩
          rcases dLook_val h1 rs with ⟨q1, q2⟩ | ⟨w, z, q1, q2, _⟩
          · rw [q1]; rw [q2] at q; exact q
          · rw [q1]; rw [q2] at q; exact q
        · cases e
      · cases e
  | NotIn =>
    simp only [cmpT] at e
    obtain ⟨b', e', rfl⟩ := Option.map_eq_some_iff.mp e
    clear e
    have e := e'; clear e'
    simp only [inT] at e
    split at e
    · rename_i xs ex
      obtain ⟨a, vs, rfl, g, rs⟩ := R.seq h2 ex
      split at e
      · rename_i c
        rw [Bool.and_eq_true] at c
        cases e
        refine op_notIn_seq pins s σ H _ _ v u Q I rx ry ⟨_, vs, rfl, g, flatV_of h1 c.1, flatAll rs c.2, ?_⟩
        rw [if_pos rfl, inV_any h1 c.1 rs c.2]; exact q
      · split at e
        · rename_i d ds e1 e2
          split at e
          · rename_i c
            cases e
            obtain ⟨bs, q1⟩ := Dp.reads I d _ _ (h1.dp e1) rx
            rcases g with g | g
            · obtain ⟨as, q2⟩ := Dp.reads I (.list ds) _ _ (.lst g (rs.dp e2)) ry
              exact SeqAt.notIn_list_reads q2 q1 (rs.lay e2) (h1.lay e1) (by omega) ⟨.bl _, H, I, rfl, q⟩
            · obtain ⟨as, q2⟩ := Dp.reads I (.tuple ds) _ _ (.tup g (rs.dp e2)) ry
              exact SeqAt.notIn_tuple_reads q2 q1 (rs.lay e2) (h1.lay e1) (by omega) ⟨.bl _, H, I, rfl, q⟩
          · cases e
        · cases e
    · split at e
      · rename_i kvs ex
        split at e
        · rename_i c
          cases e
          obtain ⟨a, ks, rfl, g, rs⟩ := R.map h2 ex
          obtain ⟨j, rfl⟩ := key_of_T h1 c
          obtain rfl : u = Value.ref _ := ry
          refine d_notIn (by omega) I (.inl ⟨ks, j, g, rfl, rfl⟩) rx fun s' I' => ⟨.bl _, H, I', rfl, ?_⟩
          rcases dLook_val h1 rs with ⟨q1, q2⟩ | ⟨w, z, q1, q2, _⟩
          · rw [q1]; rw [q2] at q; exact q
          · rw [q1]; rw [q2] at q; exact q
        · cases e
      · cases e
end
end PF

end

section
set_option Elab.async false
set_option linter.all false
set_option maxRecDepth 100000
set_option maxHeartbeats 2000000
set_option autoImplicit false
/-! PfB3: subscripts, slices, truth, built-in functions and methods. -/
namespace PF
open PySem L2 PySem.Spec PyProof.Rows
section
variable {X : Cx} {A : Ad}
/-! ### truth -/
theorem tru_val {ρ : List Addr} {H : Hp} {st : Store} {x : V} {t : T} {b : Bool} (R : Rel X.K A ρ H st) (h1 : RT X.K A ρ H x t) (e : tru st t = some b) : TruV X.K x H b := by
  cases h1 with
  | non => simp [tru] at e; exact e
  | bl c => simp [tru] at e; exact e.symm
  | int i => simp [tru] at e; exact e.symm
  | str s k =>
    simp only [tru] at e
    split at e
    · rename_i c
      exact ⟨c, (Option.some.inj e).symm⟩
    · cases e
  | tup k q =>
    refine .inr (.inl ⟨_, k, ?_⟩)
    cases e
    cases q <;> rfl
  | rol k q =>
    refine .inl ⟨_, k.sql, ?_⟩
    cases e
    cases q <;> rfl
  | ref k =>
    simp only [tru] at e
    split at e
    · rename_i xs ex
      obtain ⟨vs, g, q⟩ := R.lstAt k ex
      refine .inl ⟨_, SqL.of g, ?_⟩
      cases e
      cases q <;> rfl
    · rename_i kvs ex
      obtain ⟨vs, g, q⟩ := R.dicAt k ex
      refine .inr (.inr ⟨_, g, ?_⟩)
      cases e
      cases q <;> rfl
    · cases e
  | ctp k => simp [tru] at e
  | rod k => simp [tru] at e
  | fn k => simp [tru] at e
/-- what is asked of a test's value -/
def rTru (K : PySem.W.Frag) (A : Ad) : V → Hp → (Bool → Hp → Prop) → Prop := fun x H Q => ∃ ρ st t b, Rel K A ρ H st ∧ RT K A ρ H x t ∧ tru st t = some b ∧ Q b H

/-! ### subscripts -/
def ixR (t u : T) (st : Store) : R T := R.ofOpt st (ixT t u st)
theorem ixN_eq (n : Nat) (i : Int) : ixN n i = L2.ixN n i := rfl
theorem ix_all (hu : X.A.units + 1 < cLine) : IxR X (r2 X.K A ixR) := by
  intro value slice pins s σ H x y v u Q I rx ry h hs
  obtain ⟨ρ, st, t, t', W, R, h1, h2, h⟩ := h
  unfold ixR ixT at h
  have go : ∀ {o : Option T}, OkG X.K A (RT X.K A) ρ H (PF.R.ofOpt st o) Q W → ∃ w, o = some w ∧ ∀ z, RT X.K A ρ H z w → Q z H := fun {o} h => by
    cases o with
    | none => exact h.elim
    | some w => exact ⟨w, rfl, fun z hz => OkG.same R hz h⟩
  obtain ⟨w, e, q⟩ := go h
  have lst : ∀ {xs : List T} {vs : List V} {k : Int}, RTs X.K A ρ H vs xs → ((ixN xs.length k).bind fun j => xs[j]?) = some w → ∃ z, L2.atI vs k = some z ∧ RT X.K A ρ H z w := fun {xs vs k} rs e => by
    obtain ⟨j, e1, e2⟩ := Option.bind_eq_some_iff.mp e
    obtain ⟨z, e3, rz⟩ := rs.get e2
    refine ⟨z, ?_, rz⟩
    unfold L2.atI
    rw [rs.length, ← ixN_eq, e1]
    exact e3
  split at e
  · rename_i xs ex
    obtain ⟨a, vs, rfl, g, rs⟩ := R.seq h1 ex
    split at e
    · cases h2
      obtain ⟨z, e1, rz⟩ := lst rs e
      rcases g with g | g
      · exact ix_list value slice pins s σ H _ _ v u Q I rx ry ⟨_, vs, _, z, rfl, rfl, g, e1, q z rz⟩ hs
      · exact ix_tup value slice pins s σ H _ _ v u Q I rx ry ⟨_, vs, _, z, rfl, rfl, g, e1, q z rz⟩ hs
    · cases e
  · split at e
    · rename_i kvs ex
      obtain ⟨a, ks, rfl, g, rs⟩ := R.map h1 ex
      split at e
      · rename_i c
        obtain ⟨j, rfl⟩ := key_of_T h2 c
        rcases dLook_val h2 rs with ⟨q1, q2⟩ | ⟨z, w', q1, q2, q3⟩
        · rw [q2] at e; cases e
        · rw [q2] at e; cases e
          obtain rfl : v = Value.ref _ := rx
          have gt : DGet H _ (kV j) (some z) := .inl ⟨ks, j, g, rfl, q1.symm⟩
          exact tail_any (dict_typeIs I gt) PySem.F.slot_dict_getitem.lookup (d_getItem hu I gt ry fun w2 s2 I2 rw' => ⟨z, H, I2, rw', q z q3⟩) hs
      · cases e
    · cases e

/-! ### stores -/
def rSet (K : PySem.W.Frag) (A : Ad) : TSet := fun o i v H Q => ∃ ρ st t u w W, Rel K A ρ H st ∧ RT K A ρ H o t ∧ RT K A ρ H i u ∧ RT K A ρ H v w ∧ OkG K A (fun _ _ (_ : Unit) (_ : Unit) => True) ρ H (setIx t u w st) (fun _ H' => Q H') W
theorem set_all (hu : X.A.units + 1 < cLine) : PSet X (rSet X.K A) := by
  intro pins s σ H o i v ov iv u Q I ro ri rv h
  obtain ⟨ρ, st, t, t', w, W, R, h1, h2, h3, h⟩ := h
  unfold setIx at h
  split at h
  · cases h1 with | ref k =>
    split at h
    · rename_i xs kk ex
      obtain ⟨vs, g, rs⟩ := R.lstAt k ex
      cases h2
      split at h
      · rename_i j ej
        refine set_list pins s σ H _ _ v ov iv u Q I ro ri rv ⟨_, vs, _, j, rfl, rfl, g, by rw [rs.length, ← ixN_eq]; exact ej, ?_⟩
        exact h () (upd H _ (.lst (vs.set j v))) ρ (Step.write (List.mem_of_getElem? k) g True.intro) (R.write k g True.intro fun s => ⟨_, upd_same, (rs.step s).set j (h3.step s)⟩) True.intro
      · exact h.elim
    · rename_i kvs ii ex
      obtain ⟨ks, g, rs⟩ := R.dicAt k ex
      split at h
      · rename_i c
        obtain ⟨j, rfl⟩ := key_of_T h2 c.1
        refine set_dict hu pins s σ H _ _ v ov iv u Q I ro ri rv ⟨_, _, rfl, DPut.k g (by rw [rs.length]; exact c.2), ?_⟩
        exact h () (upd H _ (.dK (putK ks j v))) ρ (Step.write (List.mem_of_getElem? k) g True.intro) (R.write k g True.intro fun s => ⟨_, upd_same, dPut_rel (h2.step s) (h3.step s) (rs.step s)⟩) True.intro
      · exact h.elim
    · exact h.elim
  · exact h.elim

/-! ### slices -/
theorem sIx_eq (n d : Nat) (o : Option Int) : sIx n d o = HT.sIx n d o := by
  cases o with
  | none => rfl
  | some i =>
    show (if i < 0 then (if i + n < 0 then 0 else (i + n).toNat) else if i > n then n else i.toNat) = (if i < 0 then (i + (n : Int)).toNat else min i.toNat n)
    by_cases c : i < 0
    · rw [if_pos c, if_pos c]; split <;> omega
    · rw [if_neg c, if_neg c]; split <;> omega
theorem RTs.cut {K : PySem.W.Frag} {ρ : List Addr} {H : Hp} {vs : List V} {ts : List T} (r : RTs K A ρ H vs ts) (lo hi : Option Int) : RTs K A ρ H (L2.cutV vs lo hi) (cutT ts lo hi) := by
  unfold L2.cutV cutT
  rw [r.length, ← sIx_eq, ← sIx_eq]
  exact (r.drop _).take _
def rSl (K : PySem.W.Frag) (A : Ad) : V → Option Int → Option Int → Hp → VK → Prop := fun x lo hi H Q => ∃ ρ st t W, Rel K A ρ H st ∧ RT K A ρ H x t ∧ OkG K A (RT K A) ρ H (slcT t lo hi st) Q W
theorem cut_all {α : Type} (xs : List α) {lo hi : Option Int} {f : List α → List α} (h0 : HT.sIx xs.length 0 lo = 0) (h1 : HT.sIx xs.length xs.length hi = xs.length) : (xs.drop (HT.sIx xs.length 0 lo)).take (HT.sIx xs.length xs.length hi - HT.sIx xs.length 0 lo) = xs := by
  rw [h0, h1, List.drop_zero, Nat.sub_zero, List.take_length]
theorem sl_all : SlR X (rSl X.K A) := by
  refine fun pins s σ H x v vl vu lo hi sl Q I rx hs p1 p2 h => ?_
  obtain ⟨ρ, st, t, W, R, h1, h⟩ := h
  unfold slcT at h
  split at h
  · rename_i ts
    cases h1 with | tup k rs =>
    refine sl_tupA pins s σ H _ v vl vu lo hi sl Q I rx hs p1 p2 ⟨_, _, rfl, k, fun e => ?_, fun e => ?_⟩
    · have e2 : cutT ts lo hi = ts := by
        unfold cutT
        rw [sIx_eq, sIx_eq]
        rw [rs.length] at e
        exact cut_all (f := id) _ e.1 e.2
      rw [e2] at h
      exact h.same R (.tup k rs)
    · exact h.newTup R (rs.cut lo hi)
  · split at h
    · rename_i xs ex
      obtain ⟨a, vs, rfl, g, rs⟩ := R.lst h1 ex
      obtain ⟨T0, id, w1, w2, w3⟩ := sl_list pins s σ H _ v vl vu lo hi sl (Fz Q) I rx hs p1 p2 ⟨_, vs, rfl, g, h.newF R (rs.cut lo hi)⟩
      exact ⟨T0, id, w1, w2, wp_fz (α := Unit) w3⟩
    · exact h.elim
end
end PF

end

section
set_option Elab.async false
set_option linter.all false
set_option maxRecDepth 100000
set_option maxHeartbeats 4000000
set_option autoImplicit false
/-! PfY4: sorted(xs), min(xs) of data that are alike. -/
namespace PF
open PySem L2 PySem.Spec PyProof.Rows
section
variable {X : Cx}
theorem vals_each : ∀ {bs : List (V × PyData)} {us : List Value}, Vals (bs.map (·.1)) us → PySem.W.EachIs (fun v (b : V × PyData) => RelV b.1 v) us bs
  | [], _, r => by cases r; exact .nil
  | b :: bs, _, r => by
    cases r with
    | cons h t => exact .cons h (vals_each t)
theorem each_vals : ∀ {bs : List (V × PyData)} {us : List Value}, PySem.W.EachIs (fun v (b : V × PyData) => RelV b.1 v) us bs → Vals (bs.map (·.1)) us
  | _, _, .nil => .nil
  | _, _, .cons h t => .cons h (each_vals t)
theorem each_reads {pins : List (Addr × Obj)} {σ : L2.St} {H : Hp} {s : Shared} (I : Inv X pins σ H s) : ∀ {bs : List (V × PyData)} {us : List Value}, PySem.W.EachIs (fun v (b : V × PyData) => RelV b.1 v) us bs → (∀ b ∈ bs, Dp X.K H b.1 b.2) →
    PySem.W.EachIs (fun v (b : V × PyData) => ∃ as, Reads s.heap v b.2 as) us bs
  | _, _, .nil, _ => .nil
  | _, _, .cons h t, hd => .cons (Dp.reads I _ _ _ (hd _ List.mem_cons_self) h) (each_reads I t fun b hb => hd b (List.mem_cons_of_mem _ hb))
theorem cr_sortD : CallR X (.builtin "sorted") (fun vs H Q => ∃ (a : Addr) (bs : List (V × PyData)), vs = [V.ref a] ∧ SqL X.K H a (bs.map (·.1)) ∧ (∀ b ∈ bs, Dp X.K H b.1 b.2) ∧ PySem.W.AllAlike (bs.map (·.2)) ∧ PySem.W.Sortable (bs.map (·.2)) ∧
    (∀ b ∈ bs, X.A.units + 2 + b.2.depth < cLine) ∧ ∀ p, H p = none → Q (.ref p) (upd H p (.lst ((bs.mergeSort (PySem.W.dataLe false (·.2))).map (·.1))))) := by
  intro pins s σ H vs us Q I r h
  obtain ⟨a, bs, rfl, hs, hd, hal, hk, hu, q⟩ := h
  obtain ⟨its, rv, hl, hz⟩ := I.list hs
  rw [Vals.ref1 r]
  have e := vals_each rv
  refine PySem.W.sorted_data (enc := (·.2)) hl.isList e (each_reads I e hd) hal hk (by rw [List.length_map] at hz; exact hz) hu fun out ho eo => ?_
  obtain ⟨ep, he⟩ := PyProof.Rows.sortedAll_at s.heap its out.toArray
  have hlen : ((bs.mergeSort (PySem.W.dataLe false (·.2))).map (·.1)).length ≤ sizeLine := by
    rw [List.length_map, List.length_mergeSort]; rw [List.length_map] at hz; exact hz
  exact ⟨.ref _, upd H (s.heap.objs.size + 1) (.lst _), I.laid (t' := s.toks) (fun _ _ => PyProof.Rows.sortedAll_old) (Nat.le_succ _) ⟨hlen, out, ep, each_vals eo, he⟩, rfl, q _ (I.hok.fresh (Nat.le_succ _))⟩
end
end PF

end

section
set_option Elab.async false
set_option linter.all false
set_option maxRecDepth 100000
set_option maxHeartbeats 4000000
set_option autoImplicit false
/-! PfY5: min(xs) of data that are alike. -/
namespace PF
open PySem L2 PySem.Spec PyProof.Rows PySem.W
section
variable {X : Cx}
theorem reads_all {h : Heap} : ∀ {bs : List (V × PyData)} {us : List Value}, EachIs (fun v (b : V × PyData) => ∃ as, Reads h v b.2 as) us bs → ∃ as, ReadsAll h us (bs.map (·.2)) as
  | _, _, .nil => ⟨[], .nil⟩
  | _, _, .cons ⟨as, r⟩ t => let ⟨as', r'⟩ := reads_all t; ⟨as ++ as', .cons r r'⟩
theorem each_at {R : Value → V × PyData → Prop} : ∀ {us : List Value} {bs : List (V × PyData)} (i : Nat) {v : Value}, EachIs R us bs → us[i]? = some v → ∃ b, bs[i]? = some b ∧ R v b
  | _, _, 0, _, .cons h _, e => by cases e; exact ⟨_, rfl, h⟩
  | _, _, i + 1, _, .cons _ t, e => each_at i t e
  | _, _, 0, _, .nil, e => by cases e
  | _, _, _ + 1, _, .nil, e => by cases e
theorem minD_mem : ∀ (xs : List PyData) (x : PyData), minD x xs ∈ x :: xs
  | [], x => List.mem_cons_self
  | y :: xs, x => by
    have h := minD_mem xs (if dataLt y x then y else x)
    have e : minD x (y :: xs) = minD (if dataLt y x then y else x) xs := rfl
    rw [e]
    rcases List.mem_cons.mp h with h | h
    · rw [h]
      split
      · exact List.mem_cons_of_mem _ List.mem_cons_self
      · exact List.mem_cons_self
    · exact List.mem_cons_of_mem _ (List.mem_cons_of_mem _ h)
theorem cr_minD (hc : X.calm = true) : CallR X (.builtin "min") (fun vs H Q => ∃ (a : Addr) (b0 : V × PyData) (bs : List (V × PyData)), vs = [V.ref a] ∧ SqL X.K H a ((b0 :: bs).map (·.1)) ∧ (∀ b ∈ b0 :: bs, Dp X.K H b.1 b.2) ∧ AllAlike ((b0 :: bs).map (·.2)) ∧ (∀ b ∈ b0 :: bs, b.2 ≠ .none) ∧
    X.A.units + 1 + PyData.depthAll ((b0 :: bs).map (·.2)) < cLine ∧ ∀ b ∈ b0 :: bs, b.2 = minD b0.2 (bs.map (·.2)) → Q b.1 H) := by
  intro pins s σ H vs us Q I r h
  obtain ⟨a, b0, bs, rfl, hs, hd, hal, hnn, hu, q⟩ := h
  obtain ⟨its, rv, hl, hz⟩ := I.list hs
  rw [Vals.ref1 r]
  have e := vals_each rv
  have er := each_reads I e hd
  obtain ⟨as, hr⟩ := reads_all er
  refine min_list_data (I.ok.hd hc) hl.isList (by simpa using hr) ⟨fun d hd d' hd' => hal d hd d' hd', fun d hd => by obtain ⟨b, hb, rfl⟩ := List.mem_map.mp (show d ∈ (b0 :: bs).map (·.2) from hd); exact hnn b hb⟩ hu fun i v h' tk bs' hv rd k => ?_
  obtain ⟨b, hb, rb⟩ := each_at i e (by simpa using hv)
  obtain ⟨b2, hb2, as2, rd2⟩ := each_at i er (by simpa using hv)
  rw [hb] at hb2; cases hb2
  have hm := List.mem_of_getElem? hb
  have eq : b.2 = minD b0.2 (bs.map (·.2)) := by
    refine alike_unique b.2 (minD b0.2 (bs.map (·.2))) v as2 bs' (hal _ (List.mem_map.mpr ⟨b, hm, rfl⟩) _ ?_) (Reads.keeps k rd2) rd
    rw [List.map_cons]
    exact minD_mem _ _
  exact ⟨b.1, H, I.kept k, rb, q b hm eq⟩
end
end PF

end

section
set_option Elab.async false
set_option linter.all false
set_option maxRecDepth 100000
set_option maxHeartbeats 2000000
set_option autoImplicit false
/-! PfB4: built-in functions and methods, by values. -/
namespace PF
open PySem L2 PySem.Spec PyProof.Rows
section
variable {X : Cx} {A : Ad}
theorem ints_rel {K : PySem.W.Frag} {ρ : List Addr} {H : Hp} : ∀ {vs : List V} {ts : List T} {is : List Int}, RTs K A ρ H vs ts → intsOf ts = some is → vs = is.map V.int
  | _, _, _, .nil, e => by simp [intsOf] at e; subst e; rfl
  | _, _, _, .cons r rs, e => by
    cases r <;> simp [intsOf] at e
    obtain ⟨js, e1, rfl⟩ := e
    rw [ints_rel rs e1]; rfl
theorem bools_rel {K : PySem.W.Frag} {ρ : List Addr} {H : Hp} : ∀ {vs : List V} {ts : List T} {is : List Bool}, RTs K A ρ H vs ts → boolsOf ts = some is → vs = is.map V.bl
  | _, _, _, .nil, e => by simp [boolsOf] at e; subst e; rfl
  | _, _, _, .cons r rs, e => by
    cases r <;> simp [boolsOf] at e
    obtain ⟨js, e1, rfl⟩ := e
    rw [bools_rel rs e1]; rfl
theorem foldl_min : ∀ (r : List Int) (x : Int), (∀ y ∈ x :: r, r.foldl (fun m y => if y < m then y else m) x ≤ y) ∧ r.foldl (fun m y => if y < m then y else m) x ∈ x :: r
  | [], x => ⟨by simp, by simp⟩
  | z :: r, x => by
    have ih := foldl_min r (if z < x then z else x)
    rw [List.foldl_cons]
    generalize r.foldl (fun m y => if y < m then y else m) (if z < x then z else x) = m at ih
    refine ⟨fun y hy => ?_, ?_⟩
    · have h0 := ih.1 (if z < x then z else x) List.mem_cons_self
      rcases List.mem_cons.mp hy with rfl | hy
      · split at h0 <;> omega
      · rcases List.mem_cons.mp hy with rfl | hy
        · split at h0 <;> omega
        · exact ih.1 y (List.mem_cons_of_mem _ hy)
    · rcases List.mem_cons.mp ih.2 with e | h
      · rw [e]; split
        · exact List.mem_cons_of_mem _ List.mem_cons_self
        · exact List.mem_cons_self
      · exact List.mem_cons_of_mem _ (List.mem_cons_of_mem _ h)
theorem foldl_max : ∀ (r : List Int) (x : Int), (∀ y ∈ x :: r, y ≤ r.foldl (fun m y => if y > m then y else m) x) ∧ r.foldl (fun m y => if y > m then y else m) x ∈ x :: r
  | [], x => ⟨by simp, by simp⟩
  | z :: r, x => by
    have ih := foldl_max r (if z > x then z else x)
    rw [List.foldl_cons]
    generalize r.foldl (fun m y => if y > m then y else m) (if z > x then z else x) = m at ih
    refine ⟨fun y hy => ?_, ?_⟩
    · have h0 := ih.1 (if z > x then z else x) List.mem_cons_self
      rcases List.mem_cons.mp hy with rfl | hy
      · split at h0 <;> omega
      · rcases List.mem_cons.mp hy with rfl | hy
        · split at h0 <;> omega
        · exact ih.1 y (List.mem_cons_of_mem _ hy)
    · rcases List.mem_cons.mp ih.2 with e | h
      · rw [e]; split
        · exact List.mem_cons_of_mem _ List.mem_cons_self
        · exact List.mem_cons_self
      · exact List.mem_cons_of_mem _ (List.mem_cons_of_mem _ h)
theorem minL_is {ns : List Int} {m : Int} (h : ns ≠ []) (h1 : m ∈ ns) (h2 : ∀ y, y ∈ ns → m ≤ y) : minL ns = m := by
  cases ns with
  | nil => exact absurd rfl h
  | cons x r =>
    have q := foldl_min r x
    have a := q.1 m h1
    have b := h2 _ q.2
    show r.foldl (fun m y => if y < m then y else m) x = m
    omega
theorem maxL_is {ns : List Int} {m : Int} (h : ns ≠ []) (h1 : m ∈ ns) (h2 : ∀ y, y ∈ ns → y ≤ m) : maxL ns = m := by
  cases ns with
  | nil => exact absurd rfl h
  | cons x r =>
    have q := foldl_max r x
    have a := q.1 m h1
    have b := h2 _ q.2
    show r.foldl (fun m y => if y > m then y else m) x = m
    omega
theorem reprB_is (b : Bool) : reprB b = (if b then "True" else "False" : Str) := by cases b <;> rfl
theorem call_reprB : CallR X (.builtin "repr") (fun xs H Q => ∃ b, xs = [.bl b] ∧ Q (.str (reprB b)) H) := by
  intro pins s σ H xs us Q I r h
  obtain ⟨b, rfl, q⟩ := h
  obtain ⟨u, rfl, rx⟩ := vals1 r
  cases rx
  exact PySem.P.repr_of_bool ⟨.str (reprB b), H, I.tok _, ⟨_, by rw [reprB_is]⟩, q⟩
theorem reprB_ok (b : Bool) : PyData.strOk (reprB b) = true := by cases b <;> decide +kernel
theorem one_rel {K : PySem.W.Frag} {ρ : List Addr} {H : Hp} {xs : List V} {t : T} (r : RTs K A ρ H xs [t]) : ∃ x, xs = [x] ∧ RT K A ρ H x t := by
  cases r with
  | cons a b => cases b; exact ⟨_, rfl, a⟩
theorem two_rel {K : PySem.W.Frag} {ρ : List Addr} {H : Hp} {xs : List V} {t u : T} (r : RTs K A ρ H xs [t, u]) : ∃ x y, xs = [x, y] ∧ RT K A ρ H x t ∧ RT K A ρ H y u := by
  cases r with
  | cons a b =>
    cases b with
    | cons c d => cases d; exact ⟨_, _, rfl, a, c⟩

/-- the built-in's value -/
def fB : B → Option Value
  | .len => some (.builtin "len")
  | .abs => some (.builtin "abs")
  | .int => some (.type "int")
  | .tuple => some (.type "tuple")
  | .list => some (.type "list")
  | .listM => some (.type "list")
  | .sum => some (.builtin "sum")
  | .all => some (.builtin "all")
  | .any => some (.builtin "any")
  | .min1 => some (.builtin "min")
  | .max1 => some (.builtin "max")
  | .min2 => some (.builtin "min")
  | .max2 => some (.builtin "max")
  | .repr => some (.builtin "repr")
  | .sorted => some (.builtin "sorted")
  | _ => none
theorem lenR {a : Addr} {ks : List (Key × V)} {pins : List (Addr × Obj)} {s : Shared} {σ : L2.St} {H : Hp} {Q : VK} (I : L2.Inv X pins σ H s) (g : Rd H a (.dK ks)) (q : Q (.int ks.length) H) : wpAny (model X.prog X.w) X.A (call (.builtin "len") [.ref a]) (EP X pins σ Q) X.xe s :=
  d_len I g fun t s' I' => ⟨.int ks.length, H, I', ⟨t, rfl⟩, q⟩
theorem insI_perm (x : Int) : ∀ l : List Int, (insI x l).Perm (x :: l)
  | [] => .refl _
  | y :: r => by
    unfold insI
    split
    · exact .refl _
    · exact ((insI_perm x r).cons y).trans (.swap x y r)
theorem isortI_perm : ∀ l : List Int, (isortI l).Perm l
  | [] => .refl _
  | x :: r => (insI_perm x _).trans ((isortI_perm r).cons x)
theorem insI_srt (x : Int) : ∀ l : List Int, l.Pairwise (· ≤ ·) → (insI x l).Pairwise (· ≤ ·)
  | [], _ => List.pairwise_singleton _ _
  | y :: r, h => by
    rw [List.pairwise_cons] at h
    unfold insI
    split
    · rename_i c
      rw [List.pairwise_cons]
      refine ⟨fun z hz => ?_, List.pairwise_cons.mpr h⟩
      rcases List.mem_cons.mp hz with rfl | hz
      · exact c
      · exact Int.le_trans c (h.1 z hz)
    · rename_i c
      rw [List.pairwise_cons]
      refine ⟨fun z hz => ?_, insI_srt x r h.2⟩
      rcases List.mem_cons.mp ((insI_perm x r).mem_iff.mp hz) with rfl | hz
      · omega
      · exact h.1 z hz
theorem isortI_srt : ∀ l : List Int, (isortI l).Pairwise (· ≤ ·)
  | [] => List.Pairwise.nil
  | x :: r => insI_srt x _ (isortI_srt r)
theorem isortI_uniq {ys ks : List Int} (hp : ys.Perm ks) (hs : ys.Pairwise (· ≤ ·)) : ys = isortI ks :=
  List.Perm.eq_of_pairwise (le := fun a b => a ≤ b) (fun a b _ _ h h' => Int.le_antisymm h h') hs (isortI_srt ks) (hp.trans (isortI_perm ks).symm)
theorem ints_rtsI {K : PySem.W.Frag} {A : Ad} {ρ : List Addr} {H : Hp} : ∀ l : List Int, RTs K A ρ H (l.map V.int) (l.map T.int)
  | [] => .nil
  | x :: l => .cons (.int x) (ints_rtsI l)
theorem keys_rel {K : PySem.W.Frag} {A : Ad} {ρ : List Addr} {H : Hp} : ∀ {ks : List (Key × V)} {kvs : List (T × T)} {is : List Int}, RKs K A ρ H ks kvs → intsOf (kvs.map (·.1)) = some is → ks.map (·.1) = is.map Sum.inl
  | _, _, is, .nil, e => by cases e; rfl
  | _, _, is, .cons (k := k) (t := t) a b r, e => by
    cases t with
    | int i =>
      simp only [List.map_cons, intsOf, Option.map_eq_some_iff] at e
      obtain ⟨is', e1, rfl⟩ := e
      cases k with
      | inl j =>
        have : (V.int j) = V.int i := by cases a; rfl
        cases this
        rw [List.map_cons, List.map_cons, keys_rel r e1]
      | inr x => cases a
    | _ => simp [List.map_cons, intsOf] at e
mutual
theorem fromD_toD : ∀ {t : T} {d : PyData}, toD t = some d → fromD d = t
  | .non, _, e => by simp [toD] at e; subst e; rfl
  | .bl b, _, e => by simp [toD] at e; subst e; rfl
  | .int b, _, e => by simp [toD] at e; subst e; rfl
  | .str b, _, e => by simp [toD] at e; subst e; rfl
  | .tup l, _, e => by
    simp only [toD, Option.map_eq_some_iff] at e
    obtain ⟨ds, e1, rfl⟩ := e
    rw [fromD, fromDs_toDs e1]
  | .rol l, _, e => by
    simp only [toD, Option.map_eq_some_iff] at e
    obtain ⟨ds, e1, rfl⟩ := e
    rw [fromD, fromDs_toDs e1]
  | .rod _, _, e => by simp [toD] at e
  | .ref _, _, e => by simp [toD] at e
  | .fn _, _, e => by simp [toD] at e
theorem fromDs_toDs : ∀ {ts : List T} {ds : List PyData}, toDs ts = some ds → fromDs ds = ts
  | [], _, e => by simp [toDs] at e; subst e; rfl
  | t :: ts, _, e => by
    simp only [toDs] at e
    split at e
    · rename_i d ds h1 h2
      cases e
      rw [fromDs, fromD_toD h1, fromDs_toDs h2]
    · cases e
end
section
variable {K : PySem.W.Frag} {ρ : List Addr} {H : Hp}
theorem zip_dp : ∀ {vs : List V} {ts : List T} {ds : List PyData}, RTs K A ρ H vs ts → toDs ts = some ds → (vs.zip ds).map (·.1) = vs ∧ (vs.zip ds).map (·.2) = ds ∧ ∀ b ∈ vs.zip ds, Dp K H b.1 b.2 ∧ RT K A ρ H b.1 (fromD b.2)
  | _, _, _, .nil, e => by simp [toDs] at e; subst e; simp
  | _, _, _, .cons (v := v) (t := t) (ts := ts) r rs, e => by
    simp only [toDs] at e
    split at e
    · rename_i d ds' h1 h2
      cases e
      obtain ⟨a1, a2, a3⟩ := zip_dp rs h2
      refine ⟨by rw [List.zip_cons_cons, List.map_cons, a1], by rw [List.zip_cons_cons, List.map_cons, a2], fun b hb => ?_⟩
      rw [List.zip_cons_cons] at hb
      rcases List.mem_cons.mp hb with rfl | hb
      · exact ⟨RT.dp r h1, by rw [fromD_toD h1]; exact r⟩
      · exact a3 b hb
    · cases e
theorem rts_pairs : ∀ {l : List (V × PyData)}, (∀ b ∈ l, RT K A ρ H b.1 (fromD b.2)) → RTs K A ρ H (l.map (·.1)) ((l.map (·.2)).map fromD)
  | [], _ => .nil
  | b :: l, h => .cons (h b List.mem_cons_self) (rts_pairs fun c hc => h c (List.mem_cons_of_mem _ hc))
end
theorem ordD_of {ds : List PyData} (h : ordD ds = true) : PySem.W.AllAlike ds ∧ ∀ d ∈ ds, d.depth ≤ 180 := by
  unfold ordD at h
  rw [Bool.and_eq_true, List.all_eq_true, List.all_eq_true] at h
  exact ⟨fun d hd e he => List.all_eq_true.mp (h.1 d hd) e he, fun d hd => Nat.le_of_ble_eq_true (h.2 d hd)⟩
theorem sortT_some {ts us : List T} (h : sortT ts = some us) : ∃ ds, toDs ts = some ds ∧ PySem.W.AllAlike ds ∧ (∀ d ∈ ds, d.depth ≤ 180) ∧ PySem.W.Sortable ds ∧ us = (ds.mergeSort leD).map fromD := by
  unfold sortT at h
  split at h
  · rename_i ds e
    split at h
    · rename_i c
      rw [Bool.and_eq_true, Bool.or_eq_true] at c
      cases h
      obtain ⟨q1, q2⟩ := ordD_of c.1
      refine ⟨ds, e, q1, q2, ?_, rfl⟩
      rcases c.2 with k | k
      · refine .inl fun d hd => ?_
        have := List.all_eq_true.mp k d hd
        unfold isNeT at this
        split at this
        · exact ⟨_, _, rfl⟩
        · cases this
      · refine .inr fun d hd => ?_
        have := List.all_eq_true.mp k d hd
        refine ⟨?_, ?_⟩
        · intro q; subst q; cases this
        · intro xs q; subst q; cases this
    · cases h
  · cases h
theorem minT_some {ts : List T} {u : T} (h : minT ts = some u) : ∃ d ds, toDs ts = some (d :: ds) ∧ PySem.W.AllAlike (d :: ds) ∧ (∀ e ∈ d :: ds, e.depth ≤ 180) ∧ (∀ e ∈ d :: ds, e ≠ .none) ∧ u = fromD (PySem.W.minD d ds) := by
  unfold minT at h
  split at h
  · rename_i d ds e
    split at h
    · rename_i c
      rw [Bool.and_eq_true] at c
      cases h
      obtain ⟨q1, q2⟩ := ordD_of c.1
      refine ⟨d, ds, e, q1, q2, fun e he q => ?_, rfl⟩
      have := List.all_eq_true.mp c.2 e he
      subst q; cases this
    · cases h
  · cases h
theorem depthAll_le {n : Nat} : ∀ {ds : List PyData}, (∀ d ∈ ds, d.depth ≤ n) → PyData.depthAll ds ≤ n
  | [], _ => by simp [PyData.depthAll]
  | d :: ds, h => by
    rw [PyData.depthAll]
    have h1 := h d List.mem_cons_self
    have h2 := depthAll_le fun e he => h e (List.mem_cons_of_mem d he)
    omega
theorem call_bfn (hc : X.calm = true) (hunit : X.A.units + 190 < cLine) {b : B} {f : Value} (hf : fB b = some f) : CallR X f (rL X.K A (bfn b)) := by
  intro pins s σ H xs us Q I r h
  obtain ⟨ρ, st, ts, W, R, rs, h⟩ := h
  unfold bfn at h
  split at h
  · cases hf; obtain ⟨x, rfl, h1⟩ := one_rel rs; cases h1 with | str _ k =>
    split at h
    · rename_i c
      exact call_len_str pins s σ H _ us Q I r ⟨_, rfl, c, h.same R (.int _)⟩
    · exact h.elim
  · cases hf; obtain ⟨x, rfl, h1⟩ := one_rel rs
    split at h
    · rename_i ys ey
      obtain ⟨a, vs, rfl, g, q⟩ := R.seq h1 ey
      refine call_len_seq pins s σ H _ us Q I r ⟨_, _, rfl, g, ?_⟩
      rw [q.length]; exact h.same R (.int _)
    · split at h
      · rename_i ys ey
        obtain ⟨a, vs, rfl, g, q⟩ := R.map h1 ey
        obtain ⟨u, rfl, ru⟩ := vals1 r
        obtain rfl : u = Value.ref a := ru
        refine lenR I g ?_
        rw [q.length]; exact h.same R (.int _)
      · exact h.elim
  · cases hf; obtain ⟨x, rfl, h1⟩ := one_rel rs; cases h1
    exact call_abs pins s σ H _ us Q I r ⟨_, rfl, h.same R (.int _)⟩
  · cases hf; obtain ⟨x, rfl, h1⟩ := one_rel rs; cases h1
    exact call_int1 pins s σ H _ us Q I r (.inl ⟨_, rfl, h.same R (.int _)⟩)
  · cases hf; obtain ⟨x, rfl, h1⟩ := one_rel rs; cases h1
    rename_i b
    refine call_int1 pins s σ H _ us Q I r (.inr ⟨b, rfl, ?_⟩)
    exact h.same R (.int _)
  · cases hf; obtain ⟨x, rfl, h1⟩ := one_rel rs
    split at h
    · rename_i ys ey
      obtain ⟨a, vs, rfl, g, q⟩ := R.seq h1 ey
      rcases g with g | g
      · exact call_tuple_of pins s σ H _ us Q I r ⟨_, _, rfl, .inl ⟨g, h.newTup R q⟩⟩
      · exact call_tuple_of pins s σ H _ us Q I r ⟨_, _, rfl, .inr ⟨g, h.same R (.tup g q)⟩⟩
    · exact h.elim
  · cases hf; obtain ⟨x, rfl, h1⟩ := one_rel rs
    split at h
    · rename_i ys ey
      obtain ⟨a, vs, rfl, g, q⟩ := R.seq h1 ey
      exact wp_fz (α := Unit) (call_list_of pins s σ H _ us (Fz Q) I r ⟨_, _, rfl, g, h.newF R q⟩)
    · exact h.elim
  · cases hf; obtain ⟨x, rfl, h1⟩ := one_rel rs
    split at h
    · rename_i ys ey
      obtain ⟨a, vs, rfl, g, q⟩ := R.seq h1 ey
      exact call_list_of pins s σ H _ us Q I r ⟨_, _, rfl, g, h.newLst R q⟩
    · exact h.elim
  · cases hf; obtain ⟨x, rfl, h1⟩ := one_rel rs
    split at h
    · rename_i is ei
      obtain ⟨ys, e1, e2⟩ := Option.bind_eq_some_iff.mp ei
      obtain ⟨a, vs, rfl, g, q⟩ := R.lst h1 e1
      obtain rfl := ints_rel q e2
      exact cr_sum hc pins s σ H _ us Q I r ⟨_, is, rfl, g, h.same R (.int _)⟩
    · exact h.elim
  · cases hf; obtain ⟨x, rfl, h1⟩ := one_rel rs
    split at h
    · rename_i is ei
      obtain ⟨ys, e1, e2⟩ := Option.bind_eq_some_iff.mp ei
      obtain ⟨a, vs, rfl, g, q⟩ := R.lst h1 e1
      obtain rfl := bools_rel q e2
      exact cr_all hc pins s σ H _ us Q I r ⟨_, is, rfl, g, h.same R (.bl _)⟩
    · exact h.elim
  · cases hf; obtain ⟨x, rfl, h1⟩ := one_rel rs
    split at h
    · rename_i is ei
      obtain ⟨ys, e1, e2⟩ := Option.bind_eq_some_iff.mp ei
      obtain ⟨a, vs, rfl, g, q⟩ := R.lst h1 e1
      obtain rfl := bools_rel q e2
      exact cr_any hc pins s σ H _ us Q I r ⟨_, is, rfl, g, h.same R (.bl _)⟩
    · exact h.elim
  · cases hf; obtain ⟨x, rfl, h1⟩ := one_rel rs
    split at h
    · rename_i is ei
      obtain ⟨ys, e1, e2⟩ := Option.bind_eq_some_iff.mp ei
      obtain ⟨a, vs, rfl, g, q⟩ := R.lst h1 e1
      obtain rfl := ints_rel q e2
      split at h
      · exact h.elim
      · rename_i c
        have hne : is ≠ [] := fun z => c (by rw [z]; rfl)
        refine cr_min hc pins s σ H _ us Q I r ⟨_, is, rfl, g, List.length_pos_iff.mpr hne, fun m h1 h2 => ?_⟩
        rw [← minL_is hne h1 h2]
        exact h.same R (.int _)
    · split at h
      · rename_i u eu
        obtain ⟨ts, e1, e2⟩ := Option.bind_eq_some_iff.mp eu
        obtain ⟨a, vs, rfl, g, q⟩ := R.lst h1 e1
        obtain ⟨d, ds, ed, hal, hdp, hnn, rfl⟩ := minT_some e2
        obtain ⟨z1, z2, z3⟩ := zip_dp q ed
        cases hvs : vs.zip (d :: ds) with
        | nil => rw [hvs] at z2; cases z2
        | cons b0 bs =>
          rw [hvs] at z1 z2 z3
          simp only [List.map_cons, List.cons.injEq] at z2
          refine cr_minD hc pins s σ H _ us Q I r ⟨_, b0, bs, rfl, by rw [z1]; exact g, fun b hb => (z3 b hb).1, by rw [List.map_cons, z2.1, z2.2]; exact hal, fun b hb => hnn _ ?_, ?_, fun b hb eb => ?_⟩
          · rw [← z2.1, ← z2.2, ← List.map_cons (f := fun (x : V × PyData) => x.2)]; exact List.mem_map.mpr ⟨b, hb, rfl⟩
          · have := depthAll_le (n := 180) (ds := (b0 :: bs).map (·.2)) (by rw [List.map_cons, z2.1, z2.2]; exact hdp)
            omega
          · have q2 := (z3 b hb).2
            rw [eb, z2.1, z2.2] at q2
            exact h.same R q2
      · exact h.elim
  · cases hf; obtain ⟨x, rfl, h1⟩ := one_rel rs
    split at h
    · rename_i is ei
      obtain ⟨ys, e1, e2⟩ := Option.bind_eq_some_iff.mp ei
      obtain ⟨a, vs, rfl, g, q⟩ := R.lst h1 e1
      obtain rfl := ints_rel q e2
      split at h
      · exact h.elim
      · rename_i c
        have hne : is ≠ [] := fun z => c (by rw [z]; rfl)
        refine cr_max hc pins s σ H _ us Q I r ⟨_, is, rfl, g, List.length_pos_iff.mpr hne, fun m h1 h2 => ?_⟩
        rw [← maxL_is hne h1 h2]
        exact h.same R (.int _)
    · exact h.elim
  · cases hf; obtain ⟨x, rfl, h1⟩ := one_rel rs
    split at h
    · rename_i is ei
      obtain ⟨ys, e1, e2⟩ := Option.bind_eq_some_iff.mp ei
      obtain ⟨a, vs, rfl, g, q⟩ := R.lst h1 e1
      obtain rfl := ints_rel q e2
      refine wp_fz (α := Unit) (cr_sortedI pins s σ H _ us (Fz Q) I r ⟨_, is, rfl, g, fun ns' p hp hs hn => ?_⟩)
      rw [isortI_uniq hp hs]
      exact h.newF R (ints_rtsI _) p hn
    · split at h
      · rename_i is ei
        obtain ⟨ys, e1, e2⟩ := Option.bind_eq_some_iff.mp ei
        obtain ⟨a, vs, rfl, g, q⟩ := R.map h1 e1
        split at h
        · rename_i c
          refine wp_fz (α := Unit) (call_sortedDI hc pins s σ H _ us (Fz Q) I r ⟨_, _, is, rfl, g, keys_rel q e2, c, fun ns' p hp hs hn => ?_⟩)
          rw [isortI_uniq hp hs]
          exact h.newF R (ints_rtsI _) p hn
        · exact h.elim
      · split at h
        · rename_i ws eu
          obtain ⟨ts, e1, e2⟩ := Option.bind_eq_some_iff.mp eu
          obtain ⟨a, vs, rfl, g, q⟩ := R.lst h1 e1
          obtain ⟨ds, ed, hal, hdp, hst, rfl⟩ := sortT_some e2
          obtain ⟨z1, z2, z3⟩ := zip_dp q ed
          refine wp_fz (α := Unit) (cr_sortD pins s σ H _ us (Fz Q) I r ⟨_, vs.zip ds, rfl, by rw [z1]; exact g, fun b hb => (z3 b hb).1, by rw [z2]; exact hal, by rw [z2]; exact hst, fun b hb => ?_, fun p hn => ?_⟩)
          · have := hdp b.2 (by rw [← z2]; exact List.mem_map.mpr ⟨b, hb, rfl⟩)
            omega
          · have em : ds.mergeSort leD = ((vs.zip ds).mergeSort (PySem.W.dataLe false (·.2))).map (·.2) := by
              have := List.map_mergeSort (r := PySem.W.dataLe false (fun (x : V × PyData) => x.2)) (s := leD) (f := fun (x : V × PyData) => x.2) (l := vs.zip ds) (fun _ _ _ _ => rfl)
              rw [z2] at this
              exact this.symm
            rw [em] at h
            exact h.newF R (rts_pairs fun b hb => (z3 b ((List.mergeSort_perm _ _).mem_iff.mp hb)).2) p hn
        · exact h.elim
  · cases hf
  · cases hf; obtain ⟨x, y, rfl, h1, h2⟩ := two_rel rs; cases h1; cases h2
    exact call_min2 hc pins s σ H _ us Q I r ⟨_, _, rfl, h.same R (.int _)⟩
  · cases hf; obtain ⟨x, y, rfl, h1, h2⟩ := two_rel rs; cases h1; cases h2
    exact call_max2 hc pins s σ H _ us Q I r ⟨_, _, rfl, h.same R (.int _)⟩
  · cases hf; obtain ⟨x, rfl, h1⟩ := one_rel rs; cases h1
    exact call_reprB pins s σ H _ us Q I r ⟨_, rfl, h.same R (.str _ (reprB_ok _))⟩
  · cases hf
  · exact h.elim

/-! ### isinstance -/
def tyName : Ty → String
  | .int => "int"
  | .bool => "bool"
  | .str => "str"
  | .tuple => "tuple"
  | .list => "list"
  | .dict => "dict"
/-- the name of a value's type -/
def tName : T → Option String
  | .non => some "NoneType"
  | .bl _ => some "bool"
  | .int _ => some "int"
  | .str _ => some "str"
  | .tup _ => some "tuple"
  | _ => none
theorem kit_all (ty : Ty) : ∀ n ∈ ["NoneType", "bool", "int", "str", "tuple", "list", "dict"], kitB n (tyName ty) = some (n == tyName ty || (n == "bool" && tyName ty == "int")) := by
  cases ty <;> decide +kernel
theorem SqT.tyX {K : PySem.W.Frag} {H : Hp} {a : Addr} {xs : List V} (h : SqT K H a xs) : TyX K H (.ref a) (.type "tuple") := by
  rcases h with h | ⟨o, its, n, hk, hc, _⟩
  · rcases h with h | ⟨o, h⟩
    · exact .base (.tup h)
    · exact .fTuple h
  · exact .kTuple hk hc
theorem SqL.tyX {K : PySem.W.Frag} {H : Hp} {a : Addr} {xs : List V} (h : SqL K H a xs) : TyX K H (.ref a) (.type "list") := by
  rcases h with h | ⟨o, its, n, hk, hc, _⟩
  · rcases h with h | ⟨o, h⟩
    · exact .base (.lst h)
    · exact .base (.frz h)
  · exact .kList hk hc
theorem Rd.tyX {K : PySem.W.Frag} {H : Hp} {a : Addr} {ks : List (Key × V)} (h : Rd H a (.dK ks)) : TyX K H (.ref a) (.type "dict") := by
  rcases h with h | ⟨o, h⟩
  · exact .base (.dK h)
  · exact .fDict h
theorem RT.tyX {K : PySem.W.Frag} {ρ : List Addr} {H : Hp} {x : V} {t : T} {n : String} (h : RT K A ρ H x t) (e : tName t = some n) : TyX K H x (.type n) := by
  cases h <;> simp [tName] at e <;> subst e
  · exact .base .non
  · exact .base (.bl _)
  · exact .base (.int _)
  · exact .base (.str _)
  · rename_i k _
    exact SqT.tyX k
def rIs (K : PySem.W.Frag) (A : Ad) (ty : Ty) : List V → Hp → VK → Prop := fun xs H Q => ∃ x, xs = [x, .ty (tyName ty)] ∧ r1 K A (isiF ty) x H Q
theorem call_isT (ty : Ty) : CallR X (.builtin "isinstance") (rIs X.K A ty) := by
  intro pins s σ H xs us Q I r h
  obtain ⟨x, rfl, ρ, st, t, W, R, h1, h⟩ := h
  have go : ∀ {n : String} {b : Bool}, n ∈ ["NoneType", "bool", "int", "str", "tuple", "list", "dict"] → TyX X.K H x (.type n) → b = (n == tyName ty || (n == "bool" && tyName ty == "int")) → Q (.bl b) H →
      wpAny (model X.prog X.w) X.A (call (.builtin "isinstance") us) (EP X pins σ Q) X.xe s := fun {n b} hn hT hb q =>
    call_isi pins s σ H _ us Q I r ⟨x, _, _, _, b, rfl, .ty _, hT, kit_ty (by rw [kit_all ty n hn, hb]), q⟩
  unfold isiF at h
  split at h
  · rename_i ys ey
    obtain ⟨a, vs, rfl, g, q⟩ := R.lst h1 ey
    exact go (n := "list") (by simp) (SqL.tyX g) (by cases ty <;> rfl) (h.same R (.bl _))
  · split at h
    · rename_i ys ey
      obtain ⟨a, vs, rfl, g, q⟩ := R.map h1 ey
      exact go (n := "dict") (by simp) (Rd.tyX g) (by cases ty <;> rfl) (h.same R (.bl _))
    · obtain ⟨b, eb, q⟩ := okOpt R h
      cases h1 with
      | non => cases eb; exact go (by simp) (RT.tyX (A := A) (ρ := ρ) .non rfl) (by cases ty <;> rfl) q
      | bl c => cases eb; exact go (by simp) (RT.tyX (A := A) (ρ := ρ) (.bl c) rfl) (by cases ty <;> rfl) q
      | int c => cases eb; exact go (by simp) (RT.tyX (A := A) (ρ := ρ) (.int c) rfl) (by cases ty <;> rfl) q
      | str c k => cases eb; exact go (by simp) (RT.tyX (A := A) (ρ := ρ) (.str c k) rfl) (by cases ty <;> rfl) q
      | tup k r' => cases eb; exact go (by simp) (RT.tyX (.tup k r') rfl) (by cases ty <;> rfl) q
      | rol k r => cases eb
      | ctp k r => cases eb
      | rod k r => cases eb
      | ref k => cases eb
      | fn k => cases eb
end
end PF

end

section
set_option Elab.async false
set_option linter.all false
set_option maxRecDepth 100000
set_option maxHeartbeats 4000000
set_option autoImplicit false
/-! PfY2: set(xs) of a list of ints. -/
namespace PF
open PySem L2 PySem.Spec PyProof.Rows
/-- a new set as an object -/
abbrev newS (w : World) : Obj := { cls := .type "set", dict := none, data := .set #[] 0 (.fresh 0 0 (!w.params.followText "set-order")) }
section
variable {P : Program} {w : World} {A : Around} {E : Value → Shared → Prop} {s : Shared}
theorem set_of_list {q : Addr} {its : Array Value} (zs : List Int) {Q : Value → Shared → Prop} (hA : A.handled = none) (hq : s.heap.IsList q its)
    (hz : IntsAre its.toList zs) (hs : zs.length + 1 < scanBound)
    (fin : ∀ (g : Heap) (tk c : Nat), SetR w g s.heap.objs.size (fun j => decide (j ∈ zs)) c → c ≤ zs.length →
      (∀ b o, s.heap.get? b = some o → g.get? b = some o) → Q (.ref s.heap.objs.size) { s with heap := g, toks := tk }) :
    wpAny (model P w) A (call (.type "set") [.ref q]) Q E s := by
  have ez : its.size = zs.length := by have := IntsAre.length hz; rwa [Array.length_toList] at this
  obtain ⟨_, _, m0⟩ := F.called_set.mro
  have m1 := F.called_set.made
  have m2 := F.called_set.sub
  have m3 := F.called_set.notType
  have m4 := F.called_set.canCreate
  have m5 := F.typeCall_set_1 (.ref q)
  refine wpAny_call ?_
  refine codeAny_of_tree ?_
  show wpAny _ _ (callAny (Value.type "set") _) _ _ _
  refine wpAny_pure ?_
  refine ⟨Code.quiet_builtin _ (by decide +kernel), ?_⟩
  refine codeAny_builtin F.entry_type_call ?_
  rw [Around.under_plain (weight_type_call_type "set" [.ref q] []) rfl]
  repeat any_goals first | assumption | wp_step
  have new := code_set_led1 (P := P) (w := w) (A := A.in1) (E := E) (s := s) (.ref q)
    (Q₁ := fun x t => x = .ref s.heap.objs.size ∧ t = { s with heap := s.heap.push (newS w) }) ⟨rfl, rfl⟩
  refine codeAny_mono new fun r t hr => ?_
  match r, hr with
  | .error _, hr => exact hr
  | .ok .next, hr => exact hr.elim
  | .ok .brk, hr => exact hr.elim
  | .ok .cont, hr => exact hr.elim
  | .ok (.ret v), hr =>
    obtain ⟨rfl, rfl⟩ := hr
    have g0 : (s.heap.push (newS w)).get? s.heap.objs.size = some (newS w) := Heap.get?_push_size _ rfl
    have ty : Shared.TypeIs { s with heap := s.heap.push (newS w) } (.ref s.heap.objs.size) "set" := ⟨_, g0, rfl⟩
    have i1 := F.called_set.init.lookup
    have i2 := F.called_set.init.bind (.ref s.heap.objs.size)
    repeat any_goals first | assumption | wp_step
    have ini : codeAny (model P w) A.in1 (.call (.builtin "set.__init__") ⟨[.ref s.heap.objs.size, .ref q], []⟩)
        (wants (fun r t => r = .none ∧ ∃ g tk c, t = { s with heap := g, toks := tk } ∧ SetR w g s.heap.objs.size (fun j => decide (j ∈ zs)) c ∧ c ≤ zs.length ∧ ∀ b o, s.heap.get? b = some o → g.get? b = some o) E)
        { s with heap := s.heap.push (newS w) } := by
      refine codeAny_call_builtin F.called_set.init.plain F.entry_set_init (check_set_init_1 ty ?_)
      obtain ⟨o1, e1, cq, n1, dq⟩ := id hq
      obtain ⟨oc, od, oda, osl⟩ := o1
      simp only at cq dq
      subst cq dq
      have e2 := Heap.get?_push_of_some (newS w) e1
      have n2 := F.sub_list_set
      have n3 := F.sub_list_frozenset
      have n4 : (Value.type "list" == Value.type "dict") = false := by decide
      have q2 : (s.heap.push (newS w)).IsList q its := ⟨_, e2, rfl, n1, rfl⟩
      have lt0 : q < s.heap.objs.size := Heap.lt_size e1
      have sz : (s.heap.push (newS w)).objs.size = s.heap.objs.size + 1 := Heap.size_push ..
      unfold Builtin.«set.__init__» noKeywords Builtin.Frozenset.updateFrom
      generalize hp : pyIter = pit
      wp_walk
      subst hp
      refine wpAny_pyIter_list q2 ?_
      refine wpAny_bind (wpAny_runValue ?_)
      have hA3 : A.in1.in1.in1.handled = none := by simp [hA]
      have ne1 : q ≠ (s.heap.push (newS w)).objs.size := by rw [sz]; exact Nat.ne_of_lt (Nat.lt_succ_of_lt lt0)
      have out : s.heap.objs.size ∉ [(s.heap.push (newS w)).objs.size, q] := by
        rw [sz]
        simp only [List.mem_cons, List.not_mem_nil, or_false, not_or]
        exact ⟨Nat.ne_of_lt (Nat.lt_succ_self _), Nat.ne_of_gt lt0⟩
      have val : ∀ (i : Nat) (v : Value), its[i]? = some v → ∃ k t, zs[i]? = some k ∧ v = .int k t := fun i v hv => by
        have hi : i < zs.length := by rw [← ez]; exact (Array.getElem?_eq_some_iff.mp hv).1
        obtain ⟨t, e⟩ := PyProof.Rows.IntsAre.int_at hz i v (by rw [Array.getElem?_toList]; exact hv)
        refine ⟨zs[i], t, List.getElem?_eq_getElem hi, ?_⟩
        rw [e, List.getD_eq_getElem?_getD, List.getElem?_eq_getElem hi]; rfl
      refine set_update_ints ((Walks.list hA3 _ q ne1 its).toS) s.heap.objs.size out zs ez hs val (its.size - 0) 0 _ (by omega) (Nat.zero_le _)
        ⟨⟨_, Heap.get?_push_size _ rfl, rfl, rfl⟩, q2.push _⟩ ⟨0, Nat.le_refl 0, setR_new_at (Heap.get?_push_of_some _ g0)⟩ fun t3 c3 mv lc st3 => ?_
      obtain ⟨g3, gen3, dr3, tk3, os3⟩ := t3
      have b1 : gen3 = s.gens := mv.gens
      have b2 : dr3 = s.drawn := mv.drawn
      have b3 : os3 = s.os := mv.os
      subst b1 b2 b3
      show wpAny _ _ _ _ _ _
      refine wpAny_pure ?_
      show wpAny _ _ (ret Value.none) _ _ _
      rw [ez] at lc
      refine wpAny_pure ⟨rfl, g3, tk3, c3, rfl, st3, lc, fun b o e => ?_⟩
      have l1 : b < s.heap.objs.size := Heap.lt_size e
      refine mv.heap b o ?_ (Heap.get?_push_of_some _ (Heap.get?_push_of_some _ e))
      simp only [List.mem_cons, List.not_mem_nil, or_false, not_or]
      rw [sz]
      exact ⟨Nat.ne_of_lt l1, Nat.ne_of_lt (Nat.lt_succ_of_lt l1)⟩
    refine codeAny_mono ini fun r2 t2 h2 => ?_
    match r2, h2 with
    | .error _, h2 => exact h2
    | .ok .next, h2 => exact h2.elim
    | .ok .brk, h2 => exact h2.elim
    | .ok .cont, h2 => exact h2.elim
    | .ok (.ret v), h2 =>
      obtain ⟨rfl, g, tk, c, rfl, k1, k2, k3⟩ := h2
      repeat any_goals first | assumption | wp_step
      exact fin g tk c k1 k2 k3
end
end PF

end

section
set_option Elab.async false
set_option linter.all false
set_option maxRecDepth 100000
set_option maxHeartbeats 4000000
set_option autoImplicit false
/-! PfY3: set(xs) of ints, for sorted(set(xs)). -/
namespace PF
open PySem L2 PySem.Spec PyProof.Rows
theorem nubI_mem {k : Int} : ∀ {l : List Int}, k ∈ nubI l ↔ k ∈ l
  | [] => Iff.rfl
  | x :: r => by
    unfold nubI
    split
    · rename_i h
      rw [nubI_mem, List.mem_cons]
      constructor
      · exact .inr
      · rintro (rfl | q)
        · exact h
        · exact q
    · rw [List.mem_cons, List.mem_cons, nubI_mem]
theorem nubI_nodup : ∀ l : List Int, (nubI l).Nodup
  | [] => List.nodup_nil
  | x :: r => by
    unfold nubI
    split
    · exact nubI_nodup r
    · rename_i h
      exact List.nodup_cons.mpr ⟨fun q => h (nubI_mem.mp q), nubI_nodup r⟩
theorem sset_uniq {ys is : List Int} (hs : ys.Pairwise (· < ·)) (hm : ∀ k : Int, k ∈ ys ↔ k ∈ is) : ys = isortI (nubI is) := by
  refine isortI_uniq ((List.perm_ext_iff_of_nodup (hs.imp fun h => by omega) (nubI_nodup is)).mpr fun k => ?_) (hs.imp fun h => by omega)
  rw [hm, nubI_mem]
section
variable {X : Cx}
/-- set(xs), xs a list or tuple of ints -/
theorem cr_setI (hc : X.calm = true) : CallR X (.type "set") (fun vs H Q => ∃ (a : Addr) (is : List Int), vs = [V.ref a] ∧ (SqL X.K H a (is.map V.int) ∨ SqT X.K H a (is.map V.int)) ∧ is.length < 60 ∧
    ∀ p c, H p = none → c ≤ is.length → Q (.ref p) (upd H p (SetO X.w p (fun j => decide (j ∈ is)) c))) := by
  intro pins s σ H vs us Q I r h
  obtain ⟨a, is, rfl, hs, hl, q⟩ := h
  obtain ⟨u, rfl, ru⟩ := vals1 r
  obtain rfl : u = Value.ref a := ru
  have fin : ∀ (g : Heap) (tk c : Nat), SetR X.w g s.heap.objs.size (fun j => decide (j ∈ is)) c → c ≤ is.length → (∀ b o, s.heap.get? b = some o → g.get? b = some o) → EP X pins σ Q (.ref s.heap.objs.size) { s with heap := g, toks := tk } :=
    fun g tk c R1 hcn k => ⟨.ref s.heap.objs.size, upd H s.heap.objs.size (SetO X.w s.heap.objs.size (fun j => decide (j ∈ is)) c), I.laid (t' := tk) k (Nat.le_refl _) (setO_new R1), rfl, q _ c (I.hok.fresh (Nat.le_refl _)) hcn⟩
  rcases hs with hs | hs
  · obtain ⟨its, rv, pl, hz⟩ := I.list hs
    exact set_of_list is (I.ok.hd hc) pl.isList (by simpa using ints_of_vals rv) (by unfold scanBound; omega) fin
  · obtain ⟨its, rv, pt, hz⟩ := I.tuple hs
    exact call_set_tupI is (I.ok.hd hc) (show s.heap.IsTuple a its.toArray from pt) (by simpa using ints_of_vals rv) (by unfold scanBound; omega) fin
end
end PF

end

section
set_option Elab.async false
set_option linter.all false
set_option maxRecDepth 100000
set_option maxHeartbeats 2000000
set_option autoImplicit false
/-! PfC: from the text's trees to the code. -/
namespace PF
open PySem L2 PySem.Spec PyProof.Rows

/-- the names of the text: defs, classes, constants, methods -/
structure Gn where
  fns : List Str
  cls : List Str
  cst : List Str
  mts : List Str
  blt : List Str
  mt : List (Nat × Nat)
  fz : List (Nat × Nat)
  fzs : List ((Nat × Nat) × Str)
  own : List Str
  cx : List (Nat × Nat)
structure Cmp where
  N : List Str
  sc : Scope
  fnB : Str → Bool
  top : Bool
  calm : Bool
  gn : Gn

def visB (sc : Scope) (x : Str) : Bool := match sc.names.lookup x with
  | some .local | some .cell | some .free => true
  | _ => false
def locB (C : Cmp) (x : Str) : Bool := match C.sc.names.lookup x with
  | some .local => true
  | some .cell => C.fnB x
  | _ => false
def glB (sc : Scope) (x : Str) : Bool := match sc.names.lookup x with
  | some .globalImplicit => true
  | _ => false
def hasP (l : List (Nat × Nat)) (p : Pos) : Bool := l.any fun q => q.1 == p.line && q.2 == p.col
def idx (l : List Str) (x : Str) : Option Nat := l.findIdx? fun y => decide (y = x)
def bTab : List (Str × Nat × B) := [("len", 1, .len), ("abs", 1, .abs), ("int", 1, .int), ("tuple", 1, .tuple), ("list", 1, .list), ("list", 1, .listM), ("sum", 1, .sum), ("all", 1, .all), ("any", 1, .any),
  ("min", 1, .min1), ("max", 1, .max1), ("min", 2, .min2), ("max", 2, .max2), ("repr", 1, .repr), ("sorted", 1, .sorted)]
def isM : B → Bool
  | .listM | .dictM => true
  | _ => false
def bName (x : Str) (n : Nat) (m : Bool) : Option B := (bTab.find? fun r => decide (r.1 = x) && r.2.1 == n && (!m || isM r.2.2)).map (·.2.2)
def tyTab : List (Str × Ty) := [("int", .int), ("bool", .bool), ("str", .str), ("tuple", .tuple), ("list", .list), ("dict", .dict)]
def tyOfName (x : Str) : Option Ty := (tyTab.find? fun r => decide (r.1 = x)).map (·.2)
def mName (x : Str) (n : Nat) : Option M :=
  if x = "append" ∧ n = 1 then some .append else if x = "extend" ∧ n = 1 then some .extend else if x = "get" ∧ (n = 1 ∨ n = 2) then some .get else if x = "update" ∧ n = 1 then some .update else if x = "index" ∧ n = 1 then some .index else none
def constT : Const → Option T
  | .none => some .non
  | .bool b => some (.bl b)
  | .int i => some (.int i)
  | .str s => if PyData.strOk s then some (.str s) else none
  | _ => none
def isMinus1 : Expr → Bool
  | .UnaryOp .USub (.Constant (.int 1) _ _) _ => true
  | _ => false
/-- the slots of a block's own names -/
def ownOf (N : List Str) (scope : Scope) : List (Str × Nat) := scope.names.filterMap fun (x, k) => match k with
  | .local | .cell => (idx N x).map fun i => (x, i)
  | _ => none
mutual
def Tg.slots : Tg → List Nat
  | .nm i => [i]
  | .tup ts => ts.slots
  | _ => []
def Tgs.slots : Tgs → List Nat
  | .nil => []
  | .cons t ts => t.slots ++ ts.slots
end
mutual
def Tg.simple : Tg → Bool
  | .nm _ => true
  | .tup ts => ts.simple
  | _ => false
def Tgs.simple : Tgs → Bool
  | .nil => true
  | .cons t ts => t.simple && ts.simple
end
def isTupE : Expr → Bool
  | .Tuple .. => true
  | _ => false
def isX : E → Bool
  | .compx .. => true
  | _ => false
def isCompE : Expr → Bool
  | .ListComp .. | .DictComp .. | .SetComp .. => true
  | _ => false

/-- set(e), alone -/
def isSetC (C : Cmp) : List Expr → Bool
  | [.Call (.Name g _) [_] [] _] => decide (g = "set") && glB C.sc g && C.gn.blt.contains g
  | _ => false
mutual
def compE : Nat → Cmp → Expr → Option E
  | 0, _, _ => none
  | n + 1, C, e => match e with
    | .Name x p => if x = "__debug__" ∨ x = "__classdict__" then none else
        if visB C.sc x then (idx C.N x).map fun i => if hasP C.gn.fz p then .fz (.var i) else .var i else if glB C.sc x then (idx C.gn.cst x).map .glb else none
    | .Constant c _ _ => (constT c).map .cst
    | .Tuple es _ p => (compEs n C es).map (if hasP C.gn.cx p then .ctp else .tup)
    | .List es p => (compEs n C es).map (.lst (hasP C.gn.mt p))
    | .Dict ks vs p => if ks.length ≤ 15 then (compKV n C ks vs).map (.dct (hasP C.gn.mt p)) else none
    | .BinOp (.List [a] _) .Mult b p => match compE n C a, compE n C b with
      | some a, some b => some (.rep (hasP C.gn.mt p) a b)
      | _, _ => none
    | .BinOp a op b _ => match compE n C a, compE n C b with
      | some a, some b => some (.bin op a b)
      | _, _ => none
    | .UnaryOp .USub a _ => (compE n C a).map .neg
    | .UnaryOp .Not a _ => (compE n C a).map .not
    | .Compare a [op] [b] _ => match compE n C a, compE n C b with
      | some a, some b => some (.cmp op a b)
      | _, _ => none
    | .Compare a [op, op'] [b, c] _ => match compE n C a, compE n C b, compE n C c with
      | some a, some b, some c => some (.chn op op' a b c)
      | _, _, _ => none
    | .BoolOp .And [a] _ => compE n C a
    | .BoolOp .Or [a] _ => compE n C a
    | .BoolOp .And (a :: b :: r) pos => match compE n C a, compE n C (.BoolOp .And (b :: r) pos) with
      | some a, some b => some (.and a b)
      | _, _ => none
    | .BoolOp .Or (a :: b :: r) pos => match compE n C a, compE n C (.BoolOp .Or (b :: r) pos) with
      | some a, some b => some (.or a b)
      | _, _ => none
    | .IfExp c a b _ => match compE n C c, compE n C a, compE n C b with
      | some c, some a, some b => some (.ite c a b)
      | _, _, _ => none
    | .Call (.Name f _) es [] cp => if glB C.sc f ∧ f ≠ "__debug__" ∧ f ≠ "super" ∧ f ≠ "__name__" ∧ C.calm then match idx C.gn.fns f with
        | some i => (compEs n C es).map (.call i)
        | none => match idx C.gn.own f with
         | some c => if es = [] then none else (compEs n C es).map (.make c)
         | none => if C.gn.blt.contains f = false then none else if f = "isinstance" then match es with
            | [e, .Name t _] => match compE n C e, tyOfName t with
              | some e, some ty => if glB C.sc t ∧ C.gn.blt.contains t = true then some (.bcall (.isi ty) (.cons e .nil)) else none
              | _, _ => none
            | _ => none
          else if f = "sorted" ∧ isSetC C es = true then match es with
            | [.Call (.Name _ _) [e] [] _] => (compE n C e).map fun c => .bcall .sset (.cons c .nil)
            | _ => none
          else match bName f es.length (hasP C.gn.mt cp) with
            | some b => (compEs n C es).map (.bcall b)
            | none => none
      else none
    | .Call (.Attribute o m ap) es [] cp => if ap.endLine = cp.line ∧ C.calm ∧ es ≠ [] ∧ es.length < 20 then match mName m es.length, compE n C o, compEs n C es with
        | some m, some o, some es => some (.mcall m o es)
        | none, some o, some es => some (.own m o es)
        | _, _, _ => none
      else none
    | .Attribute o f _ => (compE n C o).map fun o => .fld o f
    | .Subscript a (.Slice lo hi none _) _ => match compE n C a, compEo n C lo, compEo n C hi with
      | some a, some lo, some hi => some (.slc a lo hi)
      | _, _, _ => none
    | .Subscript a (.Slice none none (some (.UnaryOp .USub (.Constant (.int 1) _ _) _)) _) _ => (compE n C a).map .rev
    | .Subscript a i _ => match compE n C a, compE n C i with
      | some a, some i => some (.ix a i)
      | _, _ => none
    | .ListComp elt [⟨tg, it, ifs, 0⟩] scope p => if blkC C.N C.sc scope (ownOf C.N scope) && C.calm then
        match compIt n C it tg, compTg n { C with sc := relS scope C.sc, fnB := fun x => scope.names.lookup x == some .cell, top := false } tg,
            compIfs n { C with sc := relS scope C.sc, fnB := fun x => scope.names.lookup x == some .cell, top := false } ifs,
            compE n { C with sc := relS scope C.sc, fnB := fun x => scope.names.lookup x == some .cell, top := false } elt with
        | some it, some tg, some c, some e => if tg.simple && tg.slots.all (fun i => ((ownOf C.N scope).map (·.2)).contains i) then some (if C.top && hasP C.gn.cx p then .compx tg it c e ((ownOf C.N scope).map (·.2)) else .comp (hasP C.gn.mt p) tg it c e ((ownOf C.N scope).map (·.2))) else none
        | _, _, _, _ => none
      else none
    | .ListComp elt [⟨tg, it, ifs, 0⟩, ⟨tg1, it1, ifs1, 0⟩] scope p => if blkC C.N C.sc scope (ownOf C.N scope) && C.calm then
        match compIt n C it tg, compTg n { C with sc := relS scope C.sc, fnB := fun x => scope.names.lookup x == some .cell, top := false } tg,
            compIfs n { C with sc := relS scope C.sc, fnB := fun x => scope.names.lookup x == some .cell, top := false } ifs,
            compIt n { C with sc := relS scope C.sc, fnB := fun x => scope.names.lookup x == some .cell, top := false } it1 tg1,
            compTg n { C with sc := relS scope C.sc, fnB := fun x => scope.names.lookup x == some .cell, top := false } tg1,
            compIfs n { C with sc := relS scope C.sc, fnB := fun x => scope.names.lookup x == some .cell, top := false } ifs1,
            compE n { C with sc := relS scope C.sc, fnB := fun x => scope.names.lookup x == some .cell, top := false } elt with
        | some it, some tg, some c, some it1, some tg1, some c1, some e => if tg.simple && tg1.simple && tg.slots.all (fun i => ((ownOf C.N scope).map (·.2)).contains i) && tg1.slots.all (fun i => ((ownOf C.N scope).map (·.2)).contains i)
            then some (.comp2 (hasP C.gn.mt p) tg it c tg1 it1 c1 e ((ownOf C.N scope).map (·.2)) tg1.slots) else none
        | _, _, _, _, _, _, _ => none
      else none
    | .DictComp kx vx [⟨tg, it, ifs, 0⟩] scope p => if blkC C.N C.sc scope (ownOf C.N scope) && C.calm then
        match compIt n C it tg, compTg n { C with sc := relS scope C.sc, fnB := fun x => scope.names.lookup x == some .cell, top := false } tg,
            compIfs n { C with sc := relS scope C.sc, fnB := fun x => scope.names.lookup x == some .cell, top := false } ifs,
            compE n { C with sc := relS scope C.sc, fnB := fun x => scope.names.lookup x == some .cell, top := false } kx,
            compE n { C with sc := relS scope C.sc, fnB := fun x => scope.names.lookup x == some .cell, top := false } vx with
        | some it, some tg, some c, some k, some v => if tg.simple && tg.slots.all (fun i => ((ownOf C.N scope).map (·.2)).contains i) then some (.dcomp (hasP C.gn.mt p) tg it c k v ((ownOf C.N scope).map (·.2))) else none
        | _, _, _, _, _ => none
      else none
    | _ => none
def compEs : Nat → Cmp → List Expr → Option Es
  | 0, _, _ => none
  | n + 1, C, es => match es with
    | [] => some .nil
    | e :: r => match compE n C e, compEs n C r with
      | some e, some r => some (.cons e r)
      | _, _ => none
def compKV : Nat → Cmp → List (Option Expr) → List Expr → Option KVs
  | 0, _, _, _ => none
  | n + 1, C, ks, vs => match ks, vs with
    | [], [] => some .nil
    | some k :: ks, v :: vs => match compE n C k, compE n C v, compKV n C ks vs with
      | some k, some v, some r => some (.cons k v r)
      | _, _, _ => none
    | _, _ => none
def compEo : Nat → Cmp → Option Expr → Option Eo
  | 0, _, _ => none
  | n + 1, C, e => match e with
    | none => some .none
    | some e => (compE n C e).map .some
def compIfs : Nat → Cmp → List Expr → Option Eo
  | 0, _, _ => none
  | n + 1, C, es => match es with
    | [] => some .none
    | [e] => (compE n C e).map .some
    | _ => none
def compIt : Nat → Cmp → Expr → Expr → Option It
  | 0, _, _, _ => none
  | n + 1, C, e, tg => match e with
    | .Call (.Name f _) es [] _ => if glB C.sc f ∧ f ≠ "__debug__" ∧ f ≠ "__name__" ∧ (idx C.gn.fns f).isNone ∧ C.gn.blt.contains f = true ∧ C.calm then
        if f = "range" ∧ (es.length = 1 ∨ es.length = 2 ∨ es.length = 3) then (compEs n C es).map .range
        else if f = "enumerate" ∧ isTupE tg then match es with
          | [a] => (compE n C a).map .enum
          | _ => none
        else if f = "zip" ∧ isTupE tg then match es with
          | [a, b] => match compE n C a, compE n C b with
            | some a, some b => some (.zip a b)
            | _, _ => none
          | _ => none
        else (compE n C e).map .val
      else (compE n C e).map .val
    | _ => (compE n C e).map .val
def compTg : Nat → Cmp → Expr → Option Tg
  | 0, _, _ => none
  | n + 1, C, e => match e with
    | .Name x _ => if locB C x then (idx C.N x).map .nm else none
    | .Tuple es _ _ => if C.calm then (compTgs n C es).map .tup else none
    | .Subscript _ (.Slice ..) _ => none
    | .Subscript o i _ => match compE n C o, compE n C i with
      | some o, some i => some (.sub o i)
      | _, _ => none
    | .Attribute o f _ => (compE n C o).map fun o => .fld o f
    | _ => none
def compTgs : Nat → Cmp → List Expr → Option Tgs
  | 0, _, _ => none
  | n + 1, C, es => match es with
    | [] => some .nil
    | e :: r => match compTg n C e, compTgs n C r with
      | some e, some r => some (.cons e r)
      | _, _ => none
end

/-- two names stored from the right: both are plain local names on one line -/
def parOk (sc : Scope) (x y : Str) (px py : Pos) (a b : Expr) : Bool :=
  (match sc.names.lookup x, sc.names.lookup y with | some .local, some .local => true | _, _ => false) && px.line == py.line && !(decide (x = y)) && !([a, b].all (foldedForSure 8)) && !([a, b].all (constantsAlone 8)) && decide (sc.kind = .function)
mutual
def compS : Nat → Cmp → Stmt → Option S
  | 0, _, _ => none
  | n + 1, C, s => match s with
    | .Assign [.Tuple [.Name x px, .Name y py] k1 pt] (.Tuple [a, b] k2 p2) _ =>
        if parOk C.sc x y px py a b && C.calm then match idx C.N x, idx C.N y, compE n C a, compE n C b with
          | some i, some j, some a, some b => if i = j then none else some (.par i j a b)
          | _, _, _, _ => none
        else if [a, b].all (foldedForSure 8) then match compTg n C (.Tuple [.Name x px, .Name y py] k1 pt), compE n C (.Tuple [a, b] k2 p2) with
          | some tg, some e => some (.asg tg e)
          | _, _ => none
        else none
    | .Assign [.Tuple ts k1 pt] (.Tuple vs k2 p2) _ => if vs.all (foldedForSure 8) then match compTg n C (.Tuple ts k1 pt), compE n C (.Tuple vs k2 p2) with
          | some tg, some e => some (.asg tg e)
          | _, _ => none
        else none
    | .Assign [tg] e _ => match compTg n C tg, compE n C e with
      | some tg, some e => if isX e then none else some (.asg tg e)
      | _, _ => none
    | .AugAssign (.Name x _) op e _ => match op with
      | .Add | .Sub => if locB C x then match idx C.N x, compE n C e with
          | some i, some e => some (.aug i op e)
          | _, _ => none
        else none
      | _ => none
    | .Expr (.Constant (.str _) _ _) _ => some .pass
    | .Expr e _ => if isCompE e then none else (compE n C e).map .expr
    | .Return (some e) _ => (compE n C e).map .ret
    | .Return none _ => some .retN
    | .Pass _ => some .pass
    | .Break _ => some .brk
    | .Continue _ => some .cnt
    | .If c a b _ => match compE n C c, compSs n C a, compSs n C b with
      | some c, some a, some b => some (.ifS c a b)
      | _, _, _ => none
    | .While c b [] _ => if C.calm then match compE n C c, compSs n C b with
      | some c, some b => some (.whl c b)
      | _, _ => none
      else none
    | .For tg it b [] _ => if C.calm then match compTg n C tg, compIt n C it tg, compSs n C b with
      | some tg, some it, some b => some (.for tg it b)
      | _, _, _ => none
      else none
    | .Raise (some (.Call (.Name x _) [.Constant (.str _) _ _] [] _)) none _ => if glB C.sc x ∧ x ≠ "__debug__" ∧ C.calm then (idx C.gn.cls x).map fun c => .raise c .nil else none
    | .Try b [.ExceptHandler (some (.Name x _)) none (h0 :: hs) _] [] [] _ => if glB C.sc x ∧ x ≠ "__debug__" ∧ C.calm ∧ C.top then
        match compSs n C b, idx C.gn.cls x, compSs n { C with calm := false } (h0 :: hs) with
        | some b, some c, some h => some (.tryS b c none h)
        | _, _, _ => none
      else none
    | _ => none
def compSs : Nat → Cmp → List Stmt → Option Ss
  | 0, _, _ => none
  | n + 1, C, ss => match ss with
    | [] => some .nil
    | s :: r => match compS n C s, compSs n C r with
      | some c, some r => match (C.gn.fzs.find? fun q => q.1.1 == s.pos.line && q.1.2 == s.pos.col) with
        | none => some (.cons c r)
        | some q => (idx C.N q.2).map fun i => .cons c (.cons (.fz i) r)
      | _, _ => none
end
end PF

end

section
set_option Elab.async false
set_option linter.all false
set_option maxRecDepth 100000
set_option maxHeartbeats 2000000
set_option autoImplicit false
/-! PfD1: the readings of code, and what a context must know. -/
namespace PF
open PySem L2 PySem.Spec PyProof.Rows

/-- a value that no expression has -/
abbrev WF0 : WX := fun _ _ _ _ => False
section
variable (K : PySem.W.Frag) (A : Ad) (cl : Call) (G : Tab)
def spEv (ar : Nat → Nat) (i : Nat) : Sp := fun vs H Q E => ∃ ρ st ts, Rel K A ρ H st ∧ RTs K A ρ H vs ts ∧ ts.length = ar i ∧ OkG K A (RT K A) ρ H (cl i ts st) Q E
def tE (W : WX) (c : E) : TE := fun σ H Q => ∃ ρ st sl, Rel K A ρ H st ∧ RSl K A ρ H σ sl ∧ OkG K A (RT K A) ρ H (evE cl G c sl st) Q (fun k d H' => W k d σ H')
def tTt (W : WX) (c : E) : TT := fun σ H Q => ∃ ρ st sl, Rel K A ρ H st ∧ RSl K A ρ H σ sl ∧ OkG K A (fun _ _ (b a : Bool) => b = a) ρ H ((evE cl G c sl st).bind fun x st => truR st x) Q (fun k d H' => W k d σ H')
def tEs (W : WX) (c : Es) : TA := fun σ H Q => ∃ ρ st sl, Rel K A ρ H st ∧ RSl K A ρ H σ sl ∧ OkG K A (RTs K A) ρ H (evEs cl G c sl st) Q (fun k d H' => W k d σ H')
def tEo (W : WX) (c : Eo) : TO := fun σ H Q => ∃ ρ st sl, Rel K A ρ H st ∧ RSl K A ρ H σ sl ∧ OkG K A (fun _ _ (b a : Option Int) => b = a) ρ H (evEo cl G c sl st) Q (fun k d H' => W k d σ H')
def tCo (W : WX) (c : Eo) : TT := fun σ H Q => ∃ ρ st sl, Rel K A ρ H st ∧ RSl K A ρ H σ sl ∧ OkG K A (fun _ _ (b a : Bool) => b = a) ρ H (evC cl G c sl st) Q (fun k d H' => W k d σ H')
/-- an iterator stands for what is walked -/
def RJ (ρ : List Addr) (H : Hp) (J : L2.It) (j : Itv) : Prop := ∀ ρ' H' st', Kp K ρ H ρ' H' → Rel K A ρ' H' st' →
  (∀ i, j.len st' = some i → J.stop i H') ∧ ∀ i t, j.get st' i = some t → J.go i H' ∧ ∀ x H'', J.yld i H' x H'' → Step K ρ' H' ρ' H'' ∧ Rel K A ρ' H'' st' ∧ RT K A ρ' H'' x t
def tIt (W : WX) (c : It) : TI := fun σ H R => ∃ ρ st sl, Rel K A ρ H st ∧ RSl K A ρ H σ sl ∧ OkG K A (RJ K A) ρ H (evIt cl G c sl st) R (fun k d H' => W k d σ H')
/-- only these slots have changed -/
def Out (l : List Nat) (σ σ' : L2.St) : Prop := ∀ vs : List Nat, (∀ i ∈ l, i ∈ vs) → wipe σ' vs = wipe σ vs
def rTg (l : List Nat) (σ : L2.St) : List Addr → Hp → L2.St → Sl → Prop := fun ρ' H' σ' sl' => RSl K A ρ' H' σ' sl' ∧ Out l σ σ'
def tTg (c : Tg) : TG := fun v σ H Q => ∃ ρ st sl t, Rel K A ρ H st ∧ RSl K A ρ H σ sl ∧ RT K A ρ H v t ∧ OkG K A (rTg K A c.slots σ) ρ H (evTg cl G c t sl st) Q (fun _ _ _ => False)
def tTgs (c : Tgs) : TGs := fun vs σ H Q => ∃ ρ st sl ts, Rel K A ρ H st ∧ RSl K A ρ H σ sl ∧ RTs K A ρ H vs ts ∧ OkG K A (rTg K A c.slots σ) ρ H (evTgs cl G c ts sl st) Q (fun _ _ _ => False)
/-- how a statement's end is wanted -/
def OkS (ρ : List Addr) (H : Hp) (r : RS) (D : Ends) (W : WX) : Prop := match r with
  | .nx sl' st' => ∀ σ' H' ρ', Step K ρ H ρ' H' → Rel K A ρ' H' st' → RSl K A ρ' H' σ' sl' → D.nx σ' H'
  | .bk sl' st' => ∀ σ' H' ρ', Step K ρ H ρ' H' → Rel K A ρ' H' st' → RSl K A ρ' H' σ' sl' → D.bk σ' H'
  | .ct sl' st' => ∀ σ' H' ρ', Step K ρ H ρ' H' → Rel K A ρ' H' st' → RSl K A ρ' H' σ' sl' → D.ct σ' H'
  | .rt t st' => ∀ v H' ρ', Step K ρ H ρ' H' → Rel K A ρ' H' st' → RT K A ρ' H' v t → D.rt v H'
  | .xc x sl' st' => ∀ k d σ' H' ρ', Step K ρ H ρ' H' → Rel K A ρ' H' st' → RSl K A ρ' H' σ' sl' → RX K A ρ' H' x k d → W k d σ' H'
  | .stuck => False
def tS (W : WX) (c : S) : TS := fun D σ H => ∃ ρ st sl, Rel K A ρ H st ∧ RSl K A ρ H σ sl ∧ OkS K A ρ H (evS cl G c sl st) D W
def tSs (W : WX) (c : Ss) : TS := fun D σ H => ∃ ρ st sl, Rel K A ρ H st ∧ RSl K A ρ H σ sl ∧ OkS K A ρ H (evSs cl G c sl st) D W
end

/-- facts of an exception's class -/
structure ExcF (K : PySem.W.Frag) (C : Addr) : Prop where
  ex : PySem.W.excIn K C [.type "ValueError", .type "Exception", .type "BaseException", .type "object"] "ValueError.__new__" = true
  kp : PySem.W.keepIn K (.ref C) = true
  sb : PySem.W.subIn K (.ref C) (.type "BaseException") = some true
  ty : PySem.W.typeIn K (.ref C) = some (.type "type")
  exm : PySem.W.exmOne K (.ref C) (.ref C) = some true

/-- what the code of an expression leans on -/
structure CxE (X : Cx) (A : Ad) (cl : Call) (G : Tab) (ar : Nat → Nat) (C : Cmp) (W : WX) : Prop where
  calm : C.calm = true → X.calm = true
  N : X.N = C.N
  nd : X.N.Nodup
  sc : X.env.scope = C.sc
  fnB : X.fn = C.fnB
  units : X.A.units + 190 < cLine
  tk : Takes X W
  top : C.top = true → X.stack = X.env :: X.outer ∧ X.env.frame = some X.env.locals
  blt : ∀ x : Str, C.gn.blt.contains x = true → X.mg x = none
  fns : ∀ (i : Nat) (x : Str), C.gn.fns[i]? = some x → ∃ f fd ps k, X.mg x = some (.ref f) ∧ PySem.W.keepIn X.K (.ref f) = true ∧ Binds X.K fd ps [] ∧ FnOk X.prog X.w X.K X.mg X.base (L2.CX X.prog X.w) k f fd ps (spEv X.K A cl ar i) ∧ (X.calm = true → Room k X.A)
  art : ∀ i ts st, ts.length ≠ ar i → cl i ts st = .stuck
  cst : ∀ (i : Nat) (x : Str), C.gn.cst[i]? = some x → ∃ u v t, X.mg x = some u ∧ RelV v u ∧ G.consts[i]? = some t ∧ ∀ ρ H, RT X.K A ρ H v t
  cls : ∀ (i : Nat) (x : Str), C.gn.cls[i]? = some x → ∃ Ca, X.mg x = some (.ref Ca) ∧ A.ca i = some Ca ∧ ExcF X.K Ca
  own : ∀ (c : Nat) (OC : OwnC), G.cls c = some OC → ∃ Ca, A.ca c = some Ca ∧ L2.Cls X.K Ca ∧ (∀ f : Str, OC.flds.contains f = true → NoAttr X.K Ca f) ∧
    ∀ (m : Str) (i : Nat), OC.mts.lookup m = some i → ∃ f fd ps k, Meth X.K Ca m f ∧ Binds X.K fd ps [] ∧ FnOk X.prog X.w X.K X.mg X.base (L2.CX X.prog X.w) k f fd ps (spEv X.K A cl ar i) ∧ (X.calm = true → Room k X.A)
  mak : ∀ (c : Nat) (x : Str), C.gn.own[c]? = some x → ∃ Ca i f, X.mg x = some (.ref Ca) ∧ A.ca (OFF + c) = some Ca ∧ G.init c = some i ∧ Mk X.K Ca f ∧
    ((∀ ts st, cl (i + BIG) ts st = .stuck) ∨ ∃ fd ps k, Binds X.K fd ps [] ∧ FnOk X.prog X.w X.K X.mg X.base (L2.CX X.prog X.w) k f fd ps (spEv X.K A cl ar (i + BIG)) ∧ (X.calm = true → Room (k + 1) X.A))
structure CxS (X : Cx) (A : Ad) (cl : Call) (G : Tab) (ar : Nat → Nat) (C : Cmp) (W : WX) : Prop where
  e : CxE X A cl G ar C W
  po : PassesOwn (model X.prog X.w) X.A X.env X.xe
  top : C.top = true → X.stack = X.env :: X.outer ∧ X.env.frame = some X.env.locals

section
variable {X : Cx} {A : Ad} {cl : Call} {G : Tab} {ar : Nat → Nat} {C : Cmp} {W : WX}
theorem pe_w {e : Expr} {t t' : TE} (h : PE X e t) (hw : ∀ σ H Q, t' σ H Q → t σ H Q) : PE X e t' := ⟨fun pins s σ H Q I q => h.run pins s σ H Q I (hw σ H Q q)⟩
theorem pt_w {e : Expr} {t t' : TT} (h : PT X e t) (hw : ∀ σ H Q, t' σ H Q → t σ H Q) : PT X e t' := ⟨fun pins s σ H Q I q => h.run pins s σ H Q I (hw σ H Q q)⟩
theorem pw_w {e : Expr} {t t' : TT} (h : PW X e t) (hw : ∀ σ H Q, t' σ H Q → t σ H Q) : PW X e t' := ⟨fun wh pins s σ H Q I q => h.run wh pins s σ H Q I (hw σ H Q q)⟩
theorem pa_w {e : List Expr} {t t' : TA} (h : PA X e t) (hw : ∀ σ H Q, t' σ H Q → t σ H Q) : PA X e t' := ⟨fun pos pins s σ H Q I q => h.run pos pins s σ H Q I (hw σ H Q q)⟩
theorem po_w {e : Option Expr} {t t' : TO} (h : PO X e t) (hw : ∀ σ H Q, t' σ H Q → t σ H Q) : PO X e t' := ⟨fun pins s σ H Q I q => h.run pins s σ H Q I (hw σ H Q q)⟩
theorem pi_w {tg e : Expr} {t t' : TI} (h : PI X tg e t) (hw : ∀ σ H Q, t' σ H Q → t σ H Q) : PI X tg e t' := ⟨fun pins s σ H Q I q => h.run pins s σ H Q I (hw σ H Q q)⟩
theorem pg_w {e : Expr} {t t' : TG} (h : PG X e t) (hw : ∀ v σ H Q, t' v σ H Q → t v σ H Q) : PG X e t' := ⟨fun pins s σ H v u Q I r q => h.run pins s σ H v u Q I r (hw v σ H Q q)⟩
theorem pgs_w {e : List Expr} {t t' : TGs} (h : PGs X e t) (hw : ∀ v σ H Q, t' v σ H Q → t v σ H Q) : PGs X e t' := ⟨fun pins s σ H v u Q I r q => h.run pins s σ H v u Q I r (hw v σ H Q q)⟩
theorem ps_w {e : Stmt} {t t' : TS} (h : PS X e t) (hw : ∀ D σ H, t' D σ H → t D σ H) : PS X e t' := ⟨fun pins s σ H D I q => h.run pins s σ H D I (hw D σ H q)⟩
theorem pss_w {e : List Stmt} {t t' : TS} (h : PSs X e t) (hw : ∀ D σ H, t' D σ H → t D σ H) : PSs X e t' := ⟨fun pins s σ H D I q => h.run pins s σ H D I (hw D σ H q)⟩
theorem pts_w {e : List Expr} {t t' : TT} (h : PTs X e t) (hw : ∀ σ H Q, t' σ H Q → t σ H Q) : PTs X e t' := ⟨fun pins s σ H Q I q => h.run pins s σ H Q I (hw σ H Q q)⟩

theorem idx_some {l : List Str} {x : Str} {i : Nat} (h : idx l x = some i) : l[i]? = some x := by
  unfold idx at h
  rw [List.findIdx?_eq_some_iff_getElem] at h
  obtain ⟨h1, h2, _⟩ := h
  rw [List.getElem?_eq_getElem h1, of_decide_eq_true h2]
theorem vis_of (cx : CxE X A cl G ar C W) {x : Str} (h : visB C.sc x = true) : Vis X.env.scope x := by
  rw [cx.sc]
  unfold visB at h
  unfold Vis
  split at h
  · exact .inl (by assumption)
  · exact .inr (.inl (by assumption))
  · exact .inr (.inr (by assumption))
  · cases h
theorem gl_of (cx : CxE X A cl G ar C W) {x : Str} (h : glB C.sc x = true) : Gl X x := by
  show X.env.scope.names.lookup x = _
  rw [cx.sc]
  unfold glB at h
  split at h
  · assumption
  · cases h
theorem loc_of (cx : CxE X A cl G ar C W) {x : Str} (h : locB C x = true) : L2.Loc X.env.scope x ∧ (X.fn x = true ∨ X.env.scope.names.lookup x = some .local) := by
  unfold L2.Loc
  rw [cx.sc, cx.fnB]
  unfold locB at h
  split at h
  · rename_i e; exact ⟨.inl e, .inr e⟩
  · rename_i e; exact ⟨.inr e, .inl h⟩
  · cases h
theorem neq_of {x y : Str} (h : ¬ x = y) : (x == y) = false := beq_eq_false_iff_ne.mpr h

/-! ### expressions, one form after another -/
abbrev gE (X : Cx) (A : Ad) (cl : Call) (G : Tab) (W : WX) (c : E) : TE := tE X.K A cl G W c
theorem e_var (cx : CxE X A cl G ar C W) {x : Str} {pos : Pos} {i : Nat} (h1 : ¬ (x = "__debug__" ∨ x = "__classdict__")) (h2 : visB C.sc x = true) (h3 : idx C.N x = some i) : PE X (.Name x pos) (gE X A cl G W (.var i)) := by
  refine pe_w (pe_var (i := i) (by rw [cx.N]; exact idx_some h3) (vis_of cx h2) (neq_of fun e => h1 (.inl e)) (neq_of fun e => h1 (.inr e))) fun σ H Q h => ?_
  obtain ⟨ρ, st, sl, R, S, h⟩ := h
  unfold evE at h
  split at h
  · rename_i t e
    obtain ⟨v, e1, r⟩ := S.at_ i t e
    exact ⟨v, e1, h.same R r⟩
  · exact h.elim
theorem e_glb (cx : CxE X A cl G ar C W) {x : Str} {pos : Pos} {i : Nat} (h1 : ¬ (x = "__debug__" ∨ x = "__classdict__")) (h2 : glB C.sc x = true) (h3 : idx C.gn.cst x = some i) : PE X (.Name x pos) (gE X A cl G W (.glb i)) := by
  obtain ⟨u, v, t, e1, e2, e3, e4⟩ := cx.cst i x (idx_some h3)
  refine pe_w (pe_glob (gl_of cx h2) e1 e2 (neq_of fun e => h1 (.inl e))) fun σ H Q h => ?_
  obtain ⟨ρ, st, sl, R, S, h⟩ := h
  unfold evE at h
  rw [e3] at h
  exact h.same R (e4 ρ H)
theorem e_cst {c : Const} {j : Nat} {pos : Pos} {t : T} (h : constT c = some t) : PE X (.Constant c j pos) (gE X A cl G W (.cst t)) := by
  have fin : ∀ {v : V}, (∀ ρ H, RT X.K A ρ H v t) → ∀ σ H Q, gE X A cl G W (.cst t) σ H Q → tC v σ H Q := fun {v} r σ H Q h => by
    obtain ⟨ρ, st, sl, R, S, h⟩ := h
    unfold evE at h
    exact h.same R (r ρ H)
  cases c <;> simp only [constT] at h
  · cases h; exact pe_w pe_non (fin fun _ _ => .non)
  · cases h; exact pe_w pe_bl (fin fun _ _ => .bl _)
  · cases h; exact pe_w pe_int (fin fun _ _ => .int _)
  · cases h
  · cases h
  · split at h
    · rename_i c; cases h; exact pe_w pe_str (fin fun _ _ => .str _ c)
    · cases h
  · cases h
  · cases h
theorem e_bin {a b : Expr} {ca cb : E} {op : Operator} {pos : Pos} (ha : PE X a (gE X A cl G W ca)) (hb : PE X b (gE X A cl G W cb)) : PE X (.BinOp a op b pos) (gE X A cl G W (.bin op ca cb)) := by
  refine pe_w (pe_op (op_binT (A := A) op) ha hb) fun σ H Q h => ?_
  obtain ⟨ρ, st, sl, R, S, h⟩ := h
  unfold evE at h
  refine ⟨ρ, st, sl, R, S, h.seq fun t st1 v H1 ρ1 s1 R1 v1 h1 => ?_⟩
  refine ⟨ρ1, st1, sl, R1, S.step s1, h1.seq fun u st2 w H2 ρ2 s2 R2 w2 h2 => ?_⟩
  exact ⟨ρ2, st2, t, u, _, R2, v1.step s2, w2, h2⟩
theorem e_neg {a : Expr} {ca : E} {pos : Pos} (ha : PE X a (gE X A cl G W ca)) : PE X (.UnaryOp .USub a pos) (gE X A cl G W (.neg ca)) := by
  refine pe_w (pe_un un_neg ha) fun σ H Q h => ?_
  obtain ⟨ρ, st, sl, R, S, h⟩ := h
  unfold evE at h
  refine ⟨ρ, st, sl, R, S, h.seq fun t st1 v H1 ρ1 s1 R1 v1 h1 => ?_⟩
  cases v1 <;> first | exact h1.elim | skip
  exact ⟨_, rfl, h1.same R1 (.int _)⟩
theorem mark_of {b : Expr} {cb : E} {n : Nat} (op : CmpOp) (h : compE n C b = some cb) : behindInMarks op b = false := by
  cases n with
  | zero => simp [compE] at h
  | succ n => cases b <;> first | rfl | (simp [compE] at h)
theorem e_cmp (cx : CxE X A cl G ar C W) {a b : Expr} {ca cb : E} {op : CmpOp} {pos : Pos} (ha : PE X a (gE X A cl G W ca)) (hb : PE X b (gE X A cl G W cb)) (hm : behindInMarks op b = false) : PE X (.Compare a [op] [b] pos) (gE X A cl G W (.cmp op ca cb)) := by
  refine pe_w (pe_cmpR (op_cmpT (A := A) cx.units op) ha hb hm) fun σ H Q h => ?_
  obtain ⟨ρ, st, sl, R, S, h⟩ := h
  unfold evE at h
  refine ⟨ρ, st, sl, R, S, h.seq fun t st1 v H1 ρ1 s1 R1 v1 h1 => ?_⟩
  refine ⟨ρ1, st1, sl, R1, S.step s1, h1.seq fun u st2 w H2 ρ2 s2 R2 w2 h2 => ?_⟩
  exact ⟨ρ2, st2, t, u, _, R2, v1.step s2, w2, h2⟩
/-- a comparison as a test -/
theorem bool_test {r : PF.R T} {ρ : List Addr} {H : Hp} {Q : Bool → Hp → Prop} {W' : Value → Option Addr → Hp → Prop} {K : PySem.W.Frag} (hb : ∀ t st, r = .ok t st → ∃ b, t = .bl b)
    (h : OkG K A (fun _ _ (b a : Bool) => b = a) ρ H (r.bind fun x st => truR st x) Q W') : OkG K A (RT K A) ρ H r (fun x H' => ∃ k, x = .bl k ∧ Q k H') W' := by
  cases r with
  | ok t st =>
    obtain ⟨b, rfl⟩ := hb t st rfl
    intro v H' ρ' s R r
    cases r
    exact ⟨b, rfl, h b H' ρ' s R rfl⟩
  | exc x st => exact h
  | stuck => exact h
theorem ofOpt_bl {st st' : Store} {o : Option Bool} {t : T} (h : PF.R.ofOpt st (o.map .bl) = .ok t st') : ∃ b, t = .bl b := by
  cases o with
  | none => cases h
  | some b => cases h; exact ⟨b, rfl⟩
theorem t_cmp (cx : CxE X A cl G ar C W) {a b : Expr} {ca cb : E} {op : CmpOp} {pos : Pos} (ha : PE X a (gE X A cl G W ca)) (hb : PE X b (gE X A cl G W cb)) (hm : behindInMarks op b = false) : PT X (.Compare a [op] [b] pos) (tTt X.K A cl G W (.cmp op ca cb)) := by
  refine pt_w (pt_cmpR (op_cmpT (A := A) cx.units op) ha hb hm) fun σ H Q h => ?_
  obtain ⟨ρ, st, sl, R, S, h⟩ := h
  have h' := bool_test (fun t st' e => by
    unfold evE at e
    cases ea : evE cl G ca sl st with
    | ok t1 st1 =>
      rw [ea] at e
      cases eb : evE cl G cb sl st1 with
      | ok t2 st2 =>
        rw [PF.R.bind_ok, eb, PF.R.bind_ok] at e
        exact ofOpt_bl e
      | exc x st => rw [PF.R.bind_ok, eb] at e; cases e
      | stuck => rw [PF.R.bind_ok, eb] at e; cases e
    | exc x st => rw [ea] at e; cases e
    | stuck => rw [ea] at e; cases e) h
  unfold evE at h'
  refine ⟨ρ, st, sl, R, S, h'.seq fun t st1 v H1 ρ1 s1 R1 v1 h1 => ?_⟩
  refine ⟨ρ1, st1, sl, R1, S.step s1, h1.seq fun u st2 w H2 ρ2 s2 R2 w2 h2 => ?_⟩
  exact ⟨ρ2, st2, t, u, _, R2, v1.step s2, w2, h2⟩
end
end PF

end

section
set_option Elab.async false
set_option linter.all false
set_option maxRecDepth 100000
set_option maxHeartbeats 2000000
set_option autoImplicit false
/-! PfD2: truth, calls, subscripts. -/
namespace PF
open PySem L2 PySem.Spec PyProof.Rows
theorem R.bind_assoc {α β γ : Type} (r : R α) (f : α → Store → R β) (g : β → Store → R γ) : (r.bind f).bind g = r.bind fun a st => (f a st).bind g := by
  cases r <;> rfl
section
variable {X : Cx} {A : Ad} {cl : Call} {G : Tab} {ar : Nat → Nat} {C : Cmp} {W : WX}
section
variable {K : PySem.W.Frag} {ρ : List Addr} {H : Hp}
/-- a value's truth, then more -/
theorem tru_seq {γ δ : Type} {rs : List Addr → Hp → δ → γ → Prop} {r : PF.R T} {F : Bool → T → Store → PF.R γ} {Q : δ → Hp → Prop} {Q1 : Bool → Hp → Prop} {W' : Value → Option Addr → Hp → Prop}
    (h : OkG K A rs ρ H (r.bind fun x st => (truR st x).bind fun k st => F k x st) Q W')
    (hk : ∀ t st1 k H1 ρ1, Step K ρ H ρ1 H1 → Rel K A ρ1 H1 st1 → tru st1 t = some k → OkG K A rs ρ1 H1 (F k t st1) Q W' → Q1 k H1) :
    OkG K A (fun _ _ (b a : Bool) => b = a) ρ H (r.bind fun x st => truR st x) Q1 W' := by
  cases r with
  | ok t st =>
    rw [PF.R.bind_ok] at h ⊢
    unfold truR at h ⊢
    cases e : tru st t with
    | none => rw [e] at h; exact h.elim
    | some k =>
      rw [e] at h
      rw [PF.R.ofOpt_some, PF.R.bind_ok] at h
      rw [PF.R.ofOpt_some]
      intro b H' ρ' s R eb
      subst eb
      exact hk t st _ H' ρ' s R e (h.base s)
  | exc x st => exact h
  | stuck => exact h
/-- .. keeping the value -/
theorem tru_val_seq {γ δ : Type} {rs : List Addr → Hp → δ → γ → Prop} {r : PF.R T} {F : Bool → T → Store → PF.R γ} {Q : δ → Hp → Prop} {Q1 : V → Bool → Hp → Prop} {W' : Value → Option Addr → Hp → Prop} {X : Cx}
    (h : OkG X.K A rs ρ H (r.bind fun x st => (truR st x).bind fun k st => F k x st) Q W')
    (hk : ∀ t st1 k v H1 ρ1, Step X.K ρ H ρ1 H1 → Rel X.K A ρ1 H1 st1 → RT X.K A ρ1 H1 v t → tru st1 t = some k → OkG X.K A rs ρ1 H1 (F k t st1) Q W' → Q1 v k H1) :
    OkG X.K A (RT X.K A) ρ H r (fun x H1 => ∃ k, TruV X.K x H1 k ∧ Q1 x k H1) W' := by
  refine h.seq fun t st1 v H1 ρ1 s1 R1 v1 h1 => ?_
  unfold truR at h1
  cases e : tru st1 t with
  | none => rw [e] at h1; exact h1.elim
  | some k =>
    rw [e] at h1
    rw [PF.R.ofOpt_some, PF.R.bind_ok] at h1
    exact ⟨k, tru_val R1 v1 e, hk t st1 k v H1 ρ1 s1 R1 v1 e h1⟩
end

theorem t_of_e {e : Expr} {c : E} (h : PE X e (gE X A cl G W c)) (he : ∀ whole, isTrue e X.env whole = (do let v ← whole; standAt e.pos; holding [v] (truthy v))) : PT X e (tTt X.K A cl G W c) := by
  refine pt_w (pt_truth h he) fun σ H Q h => ?_
  obtain ⟨ρ, st, sl, R, S, h⟩ := h
  refine ⟨ρ, st, sl, R, S, h.seq fun t st1 v H1 ρ1 s1 R1 v1 h1 => ?_⟩
  unfold truR at h1
  cases e : tru st1 t with
  | none => rw [e] at h1; exact h1.elim
  | some k =>
    rw [e] at h1
    exact ⟨k, tru_val R1 v1 e, h1 k H1 ρ1 .refl R1 rfl⟩

/-! ### not, and, or, if -/
theorem e_not {a : Expr} {ca : E} {pos : Pos} (ha : PE X a (gE X A cl G W ca)) : PE X (.UnaryOp .Not a pos) (gE X A cl G W (.not ca)) := by
  refine pe_w (pe_notT ha) fun σ H Q h => ?_
  obtain ⟨ρ, st, sl, R, S, h⟩ := h
  unfold evE at h
  exact ⟨ρ, st, sl, R, S, tru_val_seq h fun t st1 k v H1 ρ1 s1 R1 v1 e h1 => h1.same R1 (.bl _)⟩
theorem t_not {a : Expr} {ca : E} {pos : Pos} (ha : PT X a (tTt X.K A cl G W ca)) : PT X (.UnaryOp .Not a pos) (tTt X.K A cl G W (.not ca)) := by
  refine pt_w (pt_not ha) fun σ H Q h => ?_
  obtain ⟨ρ, st, sl, R, S, h⟩ := h
  unfold evE at h
  rw [PF.R.bind_assoc] at h
  simp only [PF.R.bind_assoc] at h
  exact ⟨ρ, st, sl, R, S, tru_seq h fun t st1 k H1 ρ1 s1 R1 e h1 => h1 (!k) H1 ρ1 .refl R1 rfl⟩
theorem e_and {a b : Expr} {r : List Expr} {ca cb : E} {pos : Pos} (ha : PE X a (gE X A cl G W ca)) (hb : PE X (.BoolOp .And (b :: r) pos) (gE X A cl G W cb)) : PE X (.BoolOp .And (a :: b :: r) pos) (gE X A cl G W (.and ca cb)) := by
  refine pe_w (pe_andT ha hb) fun σ H Q h => ?_
  obtain ⟨ρ, st, sl, R, S, h⟩ := h
  unfold evE at h
  refine ⟨ρ, st, sl, R, S, tru_val_seq h fun t st1 k v H1 ρ1 s1 R1 v1 e h1 => ?_⟩
  cases k with
  | true => exact ⟨ρ1, st1, sl, R1, S.step s1, h1⟩
  | false => exact h1.same R1 v1
theorem e_or {a b : Expr} {r : List Expr} {ca cb : E} {pos : Pos} (ha : PE X a (gE X A cl G W ca)) (hb : PE X (.BoolOp .Or (b :: r) pos) (gE X A cl G W cb)) : PE X (.BoolOp .Or (a :: b :: r) pos) (gE X A cl G W (.or ca cb)) := by
  refine pe_w (pe_orT ha hb) fun σ H Q h => ?_
  obtain ⟨ρ, st, sl, R, S, h⟩ := h
  unfold evE at h
  refine ⟨ρ, st, sl, R, S, tru_val_seq h fun t st1 k v H1 ρ1 s1 R1 v1 e h1 => ?_⟩
  cases k with
  | true => exact h1.same R1 v1
  | false => exact ⟨ρ1, st1, sl, R1, S.step s1, h1⟩
theorem truR_again {st : Store} {t : T} {k : Bool} (e : tru st t = some k) : truR st t = .ok k st := by
  unfold truR; rw [e]; rfl
theorem w_and {a b : Expr} {r : List Expr} {ca cb : E} {pos : Pos} (ha : PT X a (tTt X.K A cl G W ca)) (hb : PW X (.BoolOp .And (b :: r) pos) (tTt X.K A cl G W cb)) : PW X (.BoolOp .And (a :: b :: r) pos) (tTt X.K A cl G W (.and ca cb)) := by
  refine pw_w (pw_and ha hb) fun σ H Q h => ?_
  obtain ⟨ρ, st, sl, R, S, h⟩ := h
  unfold evE at h
  rw [PF.R.bind_assoc] at h
  simp only [PF.R.bind_assoc] at h
  refine ⟨ρ, st, sl, R, S, tru_seq h fun t st1 k H1 ρ1 s1 R1 e h1 => ?_⟩
  cases k with
  | true => exact ⟨ρ1, st1, sl, R1, S.step s1, h1⟩
  | false =>
    rw [if_neg Bool.false_ne_true]
    rw [if_neg Bool.false_ne_true, PF.R.bind_ok, truR_again e] at h1
    exact h1 false H1 ρ1 .refl R1 rfl
theorem w_or {a b : Expr} {r : List Expr} {ca cb : E} {pos : Pos} (ha : PT X a (tTt X.K A cl G W ca)) (hb : PW X (.BoolOp .Or (b :: r) pos) (tTt X.K A cl G W cb)) : PW X (.BoolOp .Or (a :: b :: r) pos) (tTt X.K A cl G W (.or ca cb)) := by
  refine pw_w (pw_or ha hb) fun σ H Q h => ?_
  obtain ⟨ρ, st, sl, R, S, h⟩ := h
  unfold evE at h
  rw [PF.R.bind_assoc] at h
  simp only [PF.R.bind_assoc] at h
  refine ⟨ρ, st, sl, R, S, tru_seq h fun t st1 k H1 ρ1 s1 R1 e h1 => ?_⟩
  cases k with
  | false => exact ⟨ρ1, st1, sl, R1, S.step s1, h1⟩
  | true =>
    rw [if_pos rfl]
    rw [if_pos rfl, PF.R.bind_ok, truR_again e] at h1
    exact h1 true H1 ρ1 .refl R1 rfl
theorem e_ite {c a b : Expr} {cc ca cb : E} {pos : Pos} (hc : PT X c (tTt X.K A cl G W cc)) (ha : PE X a (gE X A cl G W ca)) (hb : PE X b (gE X A cl G W cb)) : PE X (.IfExp c a b pos) (gE X A cl G W (.ite cc ca cb)) := by
  refine pe_w (pe_ifExp hc ha hb) fun σ H Q h => ?_
  obtain ⟨ρ, st, sl, R, S, h⟩ := h
  unfold evE at h
  refine ⟨ρ, st, sl, R, S, tru_seq h fun t st1 k H1 ρ1 s1 R1 e h1 => ?_⟩
  cases k with
  | true => exact ⟨ρ1, st1, sl, R1, S.step s1, h1⟩
  | false => exact ⟨ρ1, st1, sl, R1, S.step s1, h1⟩
/-- a conditional expression as a test -/
theorem pt_ifExp {c a b : Expr} {tc ta tb : TT} {pos : Pos} (hc : PT X c tc) (ha : PT X a ta) (hb : PT X b tb) : PT X (.IfExp c a b pos) (fun σ H Q => tc σ H fun k H1 => if k = true then ta σ H1 Q else tb σ H1 Q) := by
  refine ⟨fun pins s σ H Q I h => ?_⟩
  unfold PySem.isTrue
  refine wpAny_bind (thn (hc.run pins s σ H _ I h) fun k s1 ⟨H1, I1, q1⟩ => ?_)
  cases k with
  | true => exact ha.run pins s1 σ H1 Q I1 q1
  | false => exact hb.run pins s1 σ H1 Q I1 q1
theorem t_ite {c a b : Expr} {cc ca cb : E} {pos : Pos} (hc : PT X c (tTt X.K A cl G W cc)) (ha : PT X a (tTt X.K A cl G W ca)) (hb : PT X b (tTt X.K A cl G W cb)) : PT X (.IfExp c a b pos) (tTt X.K A cl G W (.ite cc ca cb)) := by
  refine pt_w (pt_ifExp hc ha hb) fun σ H Q h => ?_
  obtain ⟨ρ, st, sl, R, S, h⟩ := h
  unfold evE at h
  rw [PF.R.bind_assoc] at h
  simp only [PF.R.bind_assoc] at h
  refine ⟨ρ, st, sl, R, S, tru_seq h fun t st1 k H1 ρ1 s1 R1 e h1 => ?_⟩
  cases k with
  | true => exact ⟨ρ1, st1, sl, R1, S.step s1, h1⟩
  | false => exact ⟨ρ1, st1, sl, R1, S.step s1, h1⟩

/-! ### chains -/
theorem marks_of {a b : Expr} {op op' : CmpOp} (h : behindInMarks op' b = false) : lastMarks [op, op'] [a, b] = false := h
theorem chn_seq {ρ : List Addr} {H : Hp} {st : Store} {sl : Sl} {σ : L2.St} {ca cb cc : E} {op op' : CmpOp} {Q : VK} (R : Rel X.K A ρ H st) (S : RSl X.K A ρ H σ sl)
    (h : OkG X.K A (RT X.K A) ρ H (evE cl G (.chn op op' ca cb cc) sl st) Q fun k d H' => W k d σ H') :
    tChain (r2 X.K A (cmpR op)) (r2 X.K A (cmpR op')) (gE X A cl G W ca) (gE X A cl G W cb) (gE X A cl G W cc) σ H Q := by
  unfold evE at h
  refine ⟨ρ, st, sl, R, S, h.seq fun t st1 v H1 ρ1 s1 R1 v1 h1 => ?_⟩
  refine ⟨ρ1, st1, sl, R1, S.step s1, h1.seq fun u st2 w H2 ρ2 s2 R2 w2 h2 => ?_⟩
  have go : OkG X.K A (RT X.K A) ρ2 H2 (cmpR op t u st2) (fun z H3 => ∃ k, z = .bl k ∧ (if k = true then gE X A cl G W cc σ H3 fun w' H4 => r2 X.K A (cmpR op') w w' H4 Q else Q (.bl false) H3)) (fun k d H' => W k d σ H') := by
    unfold cmpR
    cases e : cmpT op t u st2 with
    | none => rw [e] at h2; exact h2.elim
    | some k =>
      rw [e, PF.R.ofOpt_some, PF.R.bind_ok] at h2
      rw [Option.map_some, PF.R.ofOpt_some]
      intro z H3 ρ3 s3 R3 r3
      cases r3
      refine ⟨k, rfl, ?_⟩
      cases k with
      | false =>
        rw [if_neg Bool.false_ne_true] at h2 ⊢
        exact (h2.base s3).same R3 (.bl _)
      | true =>
        rw [if_pos rfl] at h2 ⊢
        refine ⟨ρ3, st2, sl, R3, (S.step s1).step (s2.trans s3), (h2.base s3).seq fun u2 st4 w4 H4 ρ4 s4 R4 r4 h4 => ?_⟩
        exact ⟨ρ4, st4, u, u2, _, R4, w2.step (s3.trans s4), r4, h4⟩
  exact ⟨ρ2, st2, t, u, _, R2, v1.step s2, w2, go⟩
theorem e_chn (cx : CxE X A cl G ar C W) {a b c : Expr} {ca cb cc : E} {op op' : CmpOp} {pos : Pos} (ha : PE X a (gE X A cl G W ca)) (hb : PE X b (gE X A cl G W cb)) (hc : PE X c (gE X A cl G W cc)) (hm : behindInMarks op' c = false) :
    PE X (.Compare a [op, op'] [b, c] pos) (gE X A cl G W (.chn op op' ca cb cc)) := by
  refine pe_w (pe_chain (op_cmpT (A := A) cx.units op) (op_cmpT (A := A) cx.units op') ha hb hc hm) fun σ H Q h => ?_
  obtain ⟨ρ, st, sl, R, S, h⟩ := h
  exact chn_seq R S h
theorem chn_bl {sl : Sl} {st st' : Store} {ca cb cc : E} {op op' : CmpOp} {t : T} (e : evE cl G (.chn op op' ca cb cc) sl st = .ok t st') : ∃ b, t = .bl b := by
  unfold evE at e
  cases ea : evE cl G ca sl st with
  | exc x st => rw [ea] at e; cases e
  | stuck => rw [ea] at e; cases e
  | ok t1 st1 =>
    rw [ea, PF.R.bind_ok] at e
    cases eb : evE cl G cb sl st1 with
    | exc x st => rw [eb] at e; cases e
    | stuck => rw [eb] at e; cases e
    | ok t2 st2 =>
      rw [eb, PF.R.bind_ok] at e
      cases ec : cmpT op t1 t2 st2 with
      | none => rw [ec] at e; cases e
      | some k =>
        rw [ec, PF.R.ofOpt_some, PF.R.bind_ok] at e
        cases k with
        | false => cases e; exact ⟨_, rfl⟩
        | true =>
          rw [if_pos rfl] at e
          cases ed : evE cl G cc sl st2 with
          | exc x st => rw [ed] at e; cases e
          | stuck => rw [ed] at e; cases e
          | ok t3 st3 => rw [ed, PF.R.bind_ok] at e; exact ofOpt_bl e
theorem t_chn (cx : CxE X A cl G ar C W) {a b c : Expr} {ca cb cc : E} {op op' : CmpOp} {pos : Pos} (ha : PE X a (gE X A cl G W ca)) (hb : PE X b (gE X A cl G W cb)) (hc : PE X c (gE X A cl G W cc)) (hm : behindInMarks op' c = false) :
    PT X (.Compare a [op, op'] [b, c] pos) (tTt X.K A cl G W (.chn op op' ca cb cc)) := by
  refine pt_w (pt_chain (op_cmpT (A := A) cx.units op) (op_cmpT (A := A) cx.units op') ha hb hc hm) fun σ H Q h => ?_
  obtain ⟨ρ, st, sl, R, S, h⟩ := h
  exact chn_seq R S (bool_test (fun t st' e => chn_bl e) h)

/-! ### lists of values -/
theorem star_of {n : Nat} {C : Cmp} {e : Expr} {c : E} (h : compE n C e = some c) (es : List Expr) (env : Env) : starEach (e :: es) env = (false, eval e env) :: starEach es env := by
  cases n with
  | zero => simp [compE] at h
  | succ n => cases e <;> first | rfl | (simp [compE] at h)
theorem a_nil : PA X [] (tEs X.K A cl G W .nil) := pa_w pa_nil fun σ H Q h => by
  obtain ⟨ρ, st, sl, R, S, h⟩ := h
  unfold evEs at h
  exact h [] H ρ .refl R .nil
theorem a_cons {e : Expr} {es : List Expr} {c : E} {cs : Es} (he : PE X e (gE X A cl G W c)) (hs : PA X es (tEs X.K A cl G W cs)) (hst : starEach (e :: es) X.env = (false, eval e X.env) :: starEach es X.env) : PA X (e :: es) (tEs X.K A cl G W (.cons c cs)) := by
  refine pa_w (pa_cons he hs hst) fun σ H Q h => ?_
  obtain ⟨ρ, st, sl, R, S, h⟩ := h
  unfold evEs at h
  refine ⟨ρ, st, sl, R, S, h.seq fun t st1 v H1 ρ1 s1 R1 v1 h1 => ?_⟩
  refine ⟨ρ1, st1, sl, R1, S.step s1, h1.seq fun ts st2 vs H2 ρ2 s2 R2 w2 h2 => ?_⟩
  exact h2 (v :: vs) H2 ρ2 .refl R2 (.cons (v1.step s2) w2)
theorem e_tup {es : List Expr} {cs : Es} {k : Nat} {pos : Pos} (h : PA X es (tEs X.K A cl G W cs)) : PE X (.Tuple es k pos) (gE X A cl G W (.tup cs)) := by
  refine pe_w (pe_tup h) fun σ H Q h => ?_
  obtain ⟨ρ, st, sl, R, S, h⟩ := h
  unfold evE at h
  refine ⟨ρ, st, sl, R, S, h.seq fun ts st1 vs H1 ρ1 s1 R1 v1 h1 => ?_⟩
  split at h1
  · rename_i c
    exact ⟨by rw [v1.length]; exact c, h1.newTup R1 v1⟩
  · exact h1.elim
/-- a tuple, and what is known of its object -/
def tTupF (t : TA) : TE := fun σ H Q => t σ H fun xs H1 => xs.length ≤ sizeLine ∧ ∀ p o, H1 p = none → o.dict = none → Q (.ref p) (upd H1 p (.frz o (.tup xs)))
theorem pe_tupF {es : List Expr} {t : TA} {x1 : Nat} {pos : Pos} (h : PA X es t) : PE X (.Tuple es x1 pos) (tTupF t) := by
  refine ⟨fun pins s σ H Q I hq => ?_⟩
  refine wpAny_Tuple_spliced (thn (h.run pos pins s σ H _ I hq) fun us s1 ⟨xs, H1, I1, r, z, q⟩ => ⟨by rw [← r.length]; exact z, ?_⟩)
  have hf : H1 s1.heap.objs.size = none := I1.hok.fresh (Nat.le_refl _)
  have e : (s1.heap.push { cls := .type "tuple", data := .seq us.toArray }).get? s1.heap.objs.size = some { cls := .type "tuple", data := .seq us.toArray } := Heap.get?_push_size _ rfl
  refine ⟨.ref s1.heap.objs.size, upd H1 s1.heap.objs.size (.frz { cls := .type "tuple", data := .seq us.toArray } (.tup xs)), I1.laid (t' := s1.toks) (fun b u e => Heap.get?_push_of_some _ e) (Nat.le_refl _) ?_, rfl, q _ _ hf rfl⟩
  exact ⟨e, z, us, r, ⟨_, e, rfl, _, rfl⟩⟩
theorem e_ctp {es : List Expr} {cs : Es} {k : Nat} {pos : Pos} (h : PA X es (tEs X.K A cl G W cs)) : PE X (.Tuple es k pos) (gE X A cl G W (.ctp cs)) := by
  refine pe_w (pe_tupF h) fun σ H Q h => ?_
  obtain ⟨ρ, st, sl, R, S, h⟩ := h
  unfold evE at h
  refine ⟨ρ, st, sl, R, S, h.seq fun ts st1 vs H1 ρ1 s1 R1 v1 h1 => ?_⟩
  split at h1
  · rename_i c
    exact ⟨by rw [v1.length]; exact c, fun p o hp hd => h1 (.ref p) _ ρ1 (Step.new hp) (R1.new hp) (.ctp ⟨⟨o, upd_same, hd⟩⟩ (v1.step (Step.new hp)))⟩
  · exact h1.elim
theorem e_fz {e : Expr} {c : E} (he : PE X e (gE X A cl G W c)) : PE X e (gE X A cl G W (.fz c)) := by
  refine pe_w (pe_fz he) fun σ H Q h => ?_
  obtain ⟨ρ, st, sl, R, S, h⟩ := h
  unfold evE at h
  refine ⟨ρ, st, sl, R, S, h.seq fun t st1 v H1 ρ1 s1 R1 v1 h1 => ?_⟩
  split at h1
  · cases v1 with | ref k =>
    split at h1
    · rename_i xs ex
      obtain ⟨vs, g, q⟩ := R1.lstAt k ex
      have hr := List.mem_of_getElem? k
      exact .inr ⟨_, _, rfl, g, True.intro, fun od => h1 _ _ ρ1 (Step.write hr g True.intro) (R1.write (c := .dead) k g True.intro fun s => ⟨_, upd_same⟩) (.rol (.inl ⟨od, upd_same⟩) (q.step (Step.write hr g True.intro)))⟩
    · rename_i xs ex
      obtain ⟨vs, g, q⟩ := R1.dicAt k ex
      have hr := List.mem_of_getElem? k
      exact .inr ⟨_, _, rfl, g, True.intro, fun od => h1 _ _ ρ1 (Step.write hr g True.intro) (R1.write (c := .dead) k g True.intro fun s => ⟨_, upd_same⟩) (.rod ⟨od, upd_same⟩ (q.step (Step.write hr g True.intro)))⟩
    · exact h1.elim
  · exact h1.elim
theorem e_lst {m : Bool} {es : List Expr} {cs : Es} {pos : Pos} (h : PA X es (tEs X.K A cl G W cs)) : PE X (.List es pos) (gE X A cl G W (.lst m cs)) := by
  refine pe_w (pe_fz (pe_lst h)) fun σ H Q h => ?_
  obtain ⟨ρ, st, sl, R, S, h⟩ := h
  unfold evE at h
  refine ⟨ρ, st, sl, R, S, h.seq fun ts st1 vs H1 ρ1 s1 R1 v1 h1 => ?_⟩
  split at h1
  · rename_i c
    exact ⟨by rw [v1.length]; exact c, h1.newL R1 v1⟩
  · exact h1.elim
theorem rep_one {α : Type} (x : α) : ∀ n, (List.replicate n [x]).flatten = List.replicate n x
  | 0 => rfl
  | n + 1 => by rw [List.replicate_succ, List.replicate_succ, List.flatten_cons, rep_one x n]; rfl
theorem RTs.rep {K : PySem.W.Frag} {ρ : List Addr} {H : Hp} {v : V} {t : T} (h : RT K A ρ H v t) : ∀ n : Nat, RTs K A ρ H (List.replicate n v) (List.replicate n t)
  | 0 => .nil
  | n + 1 => .cons h (RTs.rep h n)
theorem e_rep {m : Bool} {a b : Expr} {ca cb : E} {p pos : Pos} {n : Nat} {C : Cmp} (hca : compE n C a = some ca) (ha : PE X a (gE X A cl G W ca)) (hb : PE X b (gE X A cl G W cb)) : PE X (.BinOp (.List [a] p) .Mult b pos) (gE X A cl G W (.rep m ca cb)) := by
  refine pe_w (pe_fz (pe_op op_rep (pe_lst (pa_cons ha pa_nil (star_of hca [] X.env))) hb)) fun σ H Q h => ?_
  obtain ⟨ρ, st, sl, R, S, h⟩ := h
  unfold evE at h
  refine ⟨ρ, st, sl, R, S, h.seq fun t st1 v H1 ρ1 s1 R1 v1 h1 => ?_⟩
  refine ⟨by show 1 ≤ sizeLine; decide, fun p hp => ?_⟩
  have sp : Step X.K ρ1 H1 ρ1 (upd H1 p (.lst [v])) := Step.new hp
  have np : p ∉ ρ1 := R1.fresh hp
  refine ⟨ρ1, st1, sl, R1.new hp, (S.step s1).step sp, (h1.base sp).seq fun u st2 w H2 ρ2 s2 R2 w2 h2 => ?_⟩
  split at h2
  · rename_i k
    cases w2
    split at h2
    · rename_i c
      have c3 := inS_iff.mp c.1
      unfold P62 at c3
      refine ⟨p, k, [v], rfl, rfl, s2.fr p _ upd_same np, by omega, by omega, by simpa using c.2, ?_⟩
      rw [rep_one]
      exact h2.newL R2 (RTs.rep ((v1.step sp).step s2) _)
    · exact h2.elim
  · exact h2.elim
end
end PF

end

section
set_option Elab.async false
set_option linter.all false
set_option maxRecDepth 100000
set_option maxHeartbeats 2000000
set_option autoImplicit false
/-! PfD3: calls, subscripts, dicts. -/
namespace PF
open PySem L2 PySem.Spec PyProof.Rows
/-- no star among these -/
theorem stars_of : ∀ {n : Nat} {C : Cmp} {es : List Expr} {cs : Es}, compEs n C es = some cs → ∀ env : PySem.Env, (starEach es env).all (fun x => !x.1) = true ∧ (starEach es env).length = es.length
  | 0, _, _, _, h, _ => by simp [compEs] at h
  | n + 1, C, [], _, h, env => ⟨rfl, rfl⟩
  | n + 1, C, e :: r, cs, h, env => by
    simp only [compEs] at h
    split at h
    · rename_i c c' h1 h2
      obtain ⟨p, q⟩ := stars_of h2 env
      rw [star_of h1 r env]
      exact ⟨by simpa using p, by simp [q]⟩
    · cases h
theorem backTo_all (pos : Pos) : ∀ (l : List (Bool × Sem Value)), l.all (fun x => !x.1) = true → (backTo pos l).any (·.1) = false ∧ (backTo pos l).all (fun x => !x.1) = true
  | [], _ => ⟨rfl, rfl⟩
  | (b, t) :: r, h => by
    rw [List.all_cons, Bool.and_eq_true] at h
    obtain ⟨p, q⟩ := backTo_all pos r h.2
    have hb : b = false := by simpa using h.1
    subst hb
    exact ⟨p, q⟩
section
variable {X : Cx} {pins : List (Addr × Obj)} {σ : L2.St} {H : Hp} {s : Shared}
theorem d_update {a b : Addr} {kvs more : List (Key × V)} {A : Around} {E : Value → Shared → Prop} {Q : Value → Shared → Prop} (I : Inv X pins σ H s) (e : H a = some (.dK kvs)) (e2 : Rd H b (.dK more)) (hne : a ≠ b) (hsz : kvs.length + more.length ≤ sizeLine)
    (h : ∀ s', Inv X pins σ (upd H a (.dK (mergeK kvs more))) s' → Q .none s') : wpAny (model X.prog X.w) A (call (.builtin "dict.update") [.ref a, .ref b]) Q E s := by
  obtain ⟨z, hd, vs, rel, dd⟩ := dk_of I.hok e
  obtain ⟨z2, hd2, vs2, rel2, dd2⟩ := dk_rd I.hok e2
  have hl : (mergeK kvs more).length ≤ sizeLine := Nat.le_trans (length_mergeK more kvs) hsz
  refine call_meetsIn PySem.F.slot_dict_update dd.typeIs PySem.F.entry_dict_update (PySem.F.args_dict_update_2 _ _) (meets_dict_update (mixKind X.prog X.w) a b hne hd2)
    ⟨vs, vs2, dd, dd2, by rw [← rel.length, ← rel2.length]; exact hsz, fun h' dd' _ hs => h _ ?_⟩
  have he : ∃ q, h'.get? a = some q := let ⟨q, _, _, hq, _⟩ := dd'; ⟨q, hq⟩
  exact d_write I (by rw [e]; exact True.intro) hs he (dk_new hl hd (KV.merge rel2 rel) dd')
theorem mt_update : MtM X "dict.update" (fun x xs H Q => ∃ (a b : Addr) (kvs more : List (Key × V)), x = .ref a ∧ xs = [.ref b] ∧ H a = some (.dK kvs) ∧ Rd H b (.dK more) ∧ a ≠ b ∧ kvs.length + more.length ≤ sizeLine ∧ Q .non (upd H a (.dK (mergeK kvs more)))) := by
  intro pins s σ H x xs v us Q I rx rv q
  obtain ⟨a, b, kvs, more, ex, exs, e, e2, hne, hsz, q⟩ := q
  subst ex exs
  cases rx
  obtain ⟨u, eu, ru⟩ := Vals.one rv
  subst eu
  cases ru
  exact d_update I e e2 hne hsz fun s' I' => ⟨.non, _, I', rfl, q⟩
end
section
variable {X : Cx} {A : Ad} {cl : Call} {G : Tab} {ar : Nat → Nat} {C : Cmp} {W : WX}
theorem plain_of {n : Nat} {es : List Expr} {cs : Es} (h : compEs n C es = some cs) (pos : Pos) (env : PySem.Env) : (backTo pos (starEach es env)).any (·.1) = false := (backTo_all pos _ (stars_of h env).1).1

/-- f() of an own def -/
theorem pe_callS0 {CX : CXT} {k : Nat} {f : Addr} {fd : FuncData} {ps : List Str} {sp : Sp} {E : L2.St → XK} {x : Str} {p pos : Pos} (F : FnOk X.prog X.w X.K X.mg X.base CX k f fd ps sp) (hr : Room k X.A) (hg : Gl X x) (hm : X.mg x = some (.ref f)) (hk : PySem.W.keepIn X.K (.ref f) = true) (hb : Binds X.K fd ps []) (hx : ∀ σ, PassesAt CX X σ (E σ))
    (hdb : (x == ("__debug__" : Str)) = false) : PE X (.Call (.Name x p) [] [] pos) (tCallS sp E tNil) := by
  refine ⟨fun pins s σ H Q I h => ?_⟩
  refine wpAny_Call_Name_kw (ld_glob I hg hm ?_ hdb)
  exact PySem.W.callWith_K0 I.kIn hk (run_fnS (us := []) F hr hb (hx σ) I .nil h)
theorem e_call (cx : CxE X A cl G ar C W) {x : Str} {p pos : Pos} {es : List Expr} {cs : Es} {i n : Nat} (h1 : glB C.sc x = true) (h2 : ¬ x = "__debug__") (hc : C.calm = true) (h3 : idx C.gn.fns x = some i) (hes : compEs n C es = some cs) (ha : PA X es (tEs X.K A cl G W cs)) :
    PE X (.Call (.Name x p) es [] pos) (gE X A cl G W (.call i cs)) := by
  obtain ⟨f, fd, ps, k, e1, e2, e3, e4, e5⟩ := cx.fns i x (idx_some h3)
  have fin : ∀ σ H Q, gE X A cl G W (.call i cs) σ H Q → tCallS (spEv X.K A cl ar i) (WE W) (tEs X.K A cl G W cs) σ H Q := fun σ H Q h => by
    obtain ⟨ρ, st, sl, R, S, h⟩ := h
    unfold evE at h
    refine ⟨ρ, st, sl, R, S, h.seq fun ts st1 vs H1 ρ1 s1 R1 v1 h1 => ?_⟩
    have hl : ts.length = ar i := by
      by_cases q : ts.length = ar i
      · exact q
      · rw [cx.art i ts st1 q] at h1; exact h1.elim
    exact ⟨ρ1, st1, ts, R1, v1, hl, h1⟩
  cases es with
  | nil =>
    refine pe_w (pe_callS0 e4 (e5 (cx.calm hc)) (gl_of cx h1) e1 e2 e3 (passAt cx.tk) (neq_of h2)) fun σ H Q h => ?_
    have q := fin σ H Q h
    cases n with
    | zero => simp [compEs] at hes
    | succ n =>
      simp only [compEs] at hes
      cases hes
      obtain ⟨ρ, st, sl, R, S, q⟩ := q
      unfold evEs at q
      exact q [] H ρ .refl R .nil
  | cons e es =>
    cases n with
    | zero => simp [compEs] at hes
    | succ n =>
      simp only [compEs] at hes
      split at hes
      · rename_i c c' g1 g2
        exact pe_w (pe_callS e4 (e5 (cx.calm hc)) (gl_of cx h1) e1 e2 e3 (passAt cx.tk) ha (neq_of h2) (star_of g1 es X.env) (plain_of g2 pos X.env)) fin
      · cases hes

/-! ### built-in functions -/
def bId (b : B) : Option (Str × Bool × String) := match b with
  | .len => some ("len", false, "len") | .abs => some ("abs", false, "abs") | .int => some ("int", true, "int") | .tuple => some ("tuple", true, "tuple") | .list => some ("list", true, "list") | .listM => some ("list", true, "list")
  | .sum => some ("sum", false, "sum") | .all => some ("all", false, "all") | .any => some ("any", false, "any") | .min1 => some ("min", false, "min") | .max1 => some ("max", false, "max")
  | .min2 => some ("min", false, "min") | .max2 => some ("max", false, "max") | .repr => some ("repr", false, "repr") | .sorted => some ("sorted", false, "sorted") | _ => none
theorem bTab_ok : ∀ r ∈ bTab, ∃ ty id, bId r.2.2 = some (r.1, ty, id) ∧ fB r.2.2 = some (if ty then .type id else .builtin id) ∧ bootBuiltins r.1 = some (if ty then .type id else .builtin id) ∧ r.1 ≠ "__name__" ∧ (r.1 == ("__debug__" : Str)) = false ∧ r.2.1 ≠ 0 := by
  intro r hr
  simp only [bTab, List.mem_cons, List.mem_nil_iff, or_false] at hr
  rcases hr with rfl | rfl | rfl | rfl | rfl | rfl | rfl | rfl | rfl | rfl | rfl | rfl | rfl | rfl | rfl
  all_goals exact ⟨_, _, rfl, rfl, by decide +kernel, by decide, by decide, by decide⟩
theorem bName_ok {x : Str} {n : Nat} {m : Bool} {b : B} (h : bName x n m = some b) : ∃ (ty : Bool) (id : String), fB b = some (if ty then .type id else .builtin id) ∧ bootBuiltins x = some (if ty then .type id else .builtin id) ∧ x ≠ "__name__" ∧ (x == ("__debug__" : Str)) = false ∧ n ≠ 0 := by
  unfold bName at h
  obtain ⟨r, h1, rfl⟩ := Option.map_eq_some_iff.mp h
  have h2 := List.find?_some h1
  rw [Bool.and_eq_true, Bool.and_eq_true] at h2
  have h3 := of_decide_eq_true h2.1.1
  have h4 := eq_of_beq h2.1.2
  subst h3; subst h4
  obtain ⟨ty, id, _, k⟩ := bTab_ok r (List.mem_of_find?_eq_some h1)
  exact ⟨ty, id, k⟩
theorem e_bcall (cx : CxE X A cl G ar C W) {x : Str} {p pos : Pos} {es : List Expr} {cs : Es} {b : B} {n : Nat} {m : Bool} (h1 : glB C.sc x = true) (hc : C.calm = true) (h3 : C.gn.blt.contains x = true) (hb : bName x es.length m = some b) (hes : compEs n C es = some cs) (ha : PA X es (tEs X.K A cl G W cs)) :
    PE X (.Call (.Name x p) es [] pos) (gE X A cl G W (.bcall b cs)) := by
  obtain ⟨ty, id, k1, k2, k3, k4, k5⟩ := bName_ok hb
  have fin : ∀ σ H Q, gE X A cl G W (.bcall b cs) σ H Q → tCB (rL X.K A (bfn b)) (tEs X.K A cl G W cs) σ H Q := fun σ H Q h => by
    obtain ⟨ρ, st, sl, R, S, h⟩ := h
    unfold evE at h
    exact ⟨ρ, st, sl, R, S, h.seq fun ts st1 vs H1 ρ1 s1 R1 v1 h1 => ⟨ρ1, st1, ts, _, R1, v1, h1⟩⟩
  cases es with
  | nil => exact absurd rfl k5
  | cons e es =>
    cases n with
    | zero => simp [compEs] at hes
    | succ n =>
      simp only [compEs] at hes
      split at hes
      · rename_i c c' g1 g2
        cases ty with
        | true => exact pe_w (pe_callTy (call_bfn (cx.calm hc) cx.units k1) (gl_of cx h1) (cx.blt x h3) k2 ha k3 k4 (star_of g1 es X.env) (plain_of g2 pos X.env)) fin
        | false => exact pe_w (pe_callB (call_bfn (cx.calm hc) cx.units k1) (gl_of cx h1) (cx.blt x h3) k2 ha k3 k4 (star_of g1 es X.env) (plain_of g2 pos X.env)) fin
      · cases hes
theorem tyTab_ok : ∀ r ∈ tyTab, bootBuiltins r.1 = some (.type (tyName r.2)) ∧ r.1 ≠ "__name__" ∧ (r.1 == ("__debug__" : Str)) = false := by
  intro r hr
  simp only [tyTab, List.mem_cons, List.mem_nil_iff, or_false] at hr
  rcases hr with rfl | rfl | rfl | rfl | rfl | rfl
  all_goals exact ⟨by decide +kernel, by decide, by decide⟩
theorem tyOf_ok {x : Str} {ty : Ty} (h : tyOfName x = some ty) : bootBuiltins x = some (.type (tyName ty)) ∧ x ≠ "__name__" ∧ (x == ("__debug__" : Str)) = false := by
  unfold tyOfName at h
  obtain ⟨r, h1, rfl⟩ := Option.map_eq_some_iff.mp h
  have h2 := List.find?_some h1
  have h3 := of_decide_eq_true h2
  subst h3
  exact tyTab_ok r (List.mem_of_find?_eq_some h1)
theorem isi_one {ty : Ty} {t : T} {st : Store} {K : PySem.W.Frag} {ρ : List Addr} {H : Hp} {Q : VK} {W' : Value → Option Addr → Hp → Prop} (h : OkG K A (RT K A) ρ H (bfn (.isi ty) [t] st) Q W') : OkG K A (RT K A) ρ H (isiF ty t st) Q W' := by
  cases t <;> exact h
theorem e_isi (cx : CxE X A cl G ar C W) {x : Str} {p pos p2 : Pos} {e : Expr} {c : E} {ty : Ty} {n : Nat} (h1 : glB C.sc "isinstance" = true) (h3 : C.gn.blt.contains "isinstance" = true) (he : compE n C e = some c) (ht : tyOfName x = some ty) (h4 : glB C.sc x = true) (h5 : C.gn.blt.contains x = true) (ha : PE X e (gE X A cl G W c)) :
    PE X (.Call (.Name "isinstance" p) [e, .Name x p2] [] pos) (gE X A cl G W (.bcall (.isi ty) (.cons c .nil))) := by
  obtain ⟨k2, k3, k4⟩ := tyOf_ok ht
  have hn : PE X (.Name x p2) (tC (.ty (tyName ty))) := pe_bltn (gl_of cx h4) (cx.blt x h5) k2 rfl k3 k4
  refine pe_w (pe_callB (call_isT (A := A) ty) (gl_of cx h1) (cx.blt _ h3) (by decide +kernel) (pa_cons ha (pa_cons hn pa_nil) (star_of he _ _)) (by decide) (by decide) (star_of he _ _)) fun σ H Q h => ?_
  obtain ⟨ρ, st, sl, R, S, h⟩ := h
  unfold evE evEs evEs at h
  rw [PF.R.bind_assoc] at h
  refine ⟨ρ, st, sl, R, S, h.seq fun t st1 v H1 ρ1 s1 R1 v1 h1 => ?_⟩
  exact ⟨v, rfl, ρ1, st1, t, _, R1, v1, isi_one h1⟩

/-- sorted(set(e)) -/
theorem e_sset (cx : CxE X A cl G ar C W) {p pos p2 q : Pos} {e : Expr} {c : E} {n : Nat} (hc : C.calm = true) (h1 : glB C.sc "sorted" = true) (h2 : C.gn.blt.contains "sorted" = true) (h3 : glB C.sc "set" = true) (h4 : C.gn.blt.contains "set" = true)
    (he : compE n C e = some c) (ha : PE X e (gE X A cl G W c)) : PE X (.Call (.Name "sorted" p) [.Call (.Name "set" p2) [e] [] q] [] pos) (gE X A cl G W (.bcall .sset (.cons c .nil))) := by
  have inner := pe_callTy (p := p2) (pos := q) (cr_setI (cx.calm hc)) (gl_of cx h3) (cx.blt _ h4) (by decide +kernel) (pa_cons ha pa_nil (star_of he _ _)) (by decide) (by decide) (star_of he _ _)
  refine pe_w (pe_fz (pe_callB (p := p) (pos := pos) (cr_sortedSet (cx.calm hc)) (gl_of cx h1) (cx.blt _ h2) (by decide +kernel) (pa_cons inner pa_nil) (by decide) (by decide))) fun σ H Q h => ?_
  obtain ⟨ρ, st, sl, R, S, h⟩ := h
  unfold evE evEs evEs at h
  rw [PF.R.bind_assoc] at h
  refine ⟨ρ, st, sl, R, S, h.seq fun t st1 v H1 ρ1 s1 R1 v1 h1 => ?_⟩
  have h2 : OkG X.K A (RT X.K A) ρ1 H1 (bfn .sset [t] st1) Q _ := h1
  simp only [bfn] at h2
  split at h2
  · rename_i is ei
    obtain ⟨ys, e1, e2⟩ := Option.bind_eq_some_iff.mp ei
    obtain ⟨a, vs, rfl, g, q⟩ := R1.seq v1 e1
    obtain rfl := ints_rel q e2
    split at h2
    · rename_i c60
      refine ⟨a, is, rfl, g, c60, fun p0 cc hp hcc => ?_⟩
      have s0 : Step X.K ρ1 H1 ρ1 (upd H1 p0 (SetO X.w p0 (fun j => decide (j ∈ is)) cc)) := Step.new hp
      refine ⟨p0, _, cc, rfl, upd_same, by omega, fun ns p1 hs hm _ hp1 => ?_⟩
      rw [sset_uniq (is := is) hs fun k => (hm k).trans (by simp)]
      have h3 : OkG X.K A (RT X.K A) ρ1 (upd H1 p0 (SetO X.w p0 (fun j => decide (j ∈ is)) cc)) (.ok (.rol ((isortI (nubI is)).map .int)) st1) Q (fun k d H' => W k d σ H') := fun v H2 ρ2 s2 R2 r2 => h2 v H2 ρ2 (s0.trans s2) R2 r2
      exact h3.newF (R1.new hp) (ints_rtsI _) p1 hp1
    · exact h2.elim
  · exact h2.elim
/-! ### methods of built-in types -/
def rM (K : PySem.W.Frag) (A : Ad) (m : M) : V → List V → Hp → VK → Prop := fun x xs H Q => ∃ ρ st t ts W, Rel K A ρ H st ∧ RT K A ρ H x t ∧ RTs K A ρ H xs ts ∧ OkG K A (RT K A) ρ H (mfn m t ts st) Q W
theorem mt_append_T : MtR X "list.append" (rM X.K A .append) := by
  intro pins s σ H x xs v us Q I rx rs h
  obtain ⟨ρ, st, t, ts, W, R, h1, h2, h⟩ := h
  simp only [mfn, mAppend] at h
  split at h
  · cases h1 with | ref k =>
    split at h
    · rename_i ys ey
      obtain ⟨z, rfl, r1⟩ := one_rel h2
      obtain ⟨vs, g, q⟩ := R.lstAt k ey
      have hr := List.mem_of_getElem? k
      split at h
      · rename_i c
        refine mt_append pins s σ H _ _ v us Q I rx rs ⟨_, vs, z, rfl, rfl, g, by rw [q.length]; exact c, ?_⟩
        exact h .non _ ρ (Step.write hr g True.intro) (R.write k g True.intro fun s => ⟨_, upd_same, (q.step s).append (.cons (r1.step s) .nil)⟩) .non
      · exact h.elim
    · exact h.elim
  · exact h.elim
theorem lext {l b : Addr} {xs ys : Array Value} {n k : Nat} {sl2 : Array (Option Value)} (c0 : ¬(!xs.isEmpty && Builtin.List.listTooLong (xs.size + ys.size)) = true) (c1 : xs.size ≤ sizeLine) (c2 : xs.size + ys.size ≤ sizeLine + 1) :
    Meets (Builtin.«list.extend» ⟨[.ref l, .ref b], []⟩) (fun _ R s => s.heap.get? l = some ⟨.type "list", none, .seq xs n, #[]⟩ ∧ s.heap.get? b = some ⟨.type "list", none, .seq ys k, sl2⟩ ∧
      R (.ok (.ret Value.none)) { s with heap := s.heap.update l (Obj.mapSeq fun x => x ++ ys), toks := s.toks }) :=
  .of_wp fun prog w A R s h => by
    obtain ⟨hp, g, d, tk, os⟩ := s; obtain ⟨hl, hb, h⟩ := h
    have z1 := AutoSeq1.idx_int; have z2 := AutoSeq1.sub_tuple_tuple; have z3 := AutoSeq1.sub_list_list; have z4 := AutoSeq1.sub_tuple_list; have z5 := AutoSeq1.sub_list_tuple
    have hz' : (xs ++ ys).size ≤ sizeLine + 1 := by rw [Array.size_append]; exact c2
    wp_walk using (wpAny_updateSeq hl rfl (hz := c1) (_hz' := hz')), AutoSeq1.wpAny_loadPart' hl, AutoSeq1.wpAny_loadPart' hb; exact ⟨_, rfl, h⟩
/-- xs.extend(ys), ys any list -/
def rExtF (K : PySem.W.Frag) : V → List V → Hp → VK → Prop := fun x xs H Q => ∃ l b ys zs, x = .ref l ∧ xs = [.ref b] ∧ H l = some (.lst ys) ∧ SqL K H b zs ∧ ys.length + zs.length ≤ sizeLine ∧ Q .non (upd H l (.lst (ys ++ zs)))
theorem mt_extF : MtR X "list.extend" (rExtF X.K) := by
  intro pins s σ H x xs v us Q I rx rs h
  obtain ⟨l, b, ys, zs, rfl, rfl, hH, hB, hz, q⟩ := h
  cases rx
  obtain ⟨u, rfl, ru⟩ := vals1 rs
  cases ru
  obtain ⟨_, i1, n, r1, hl, e1⟩ := I.lstM hH
  obtain ⟨i2, r2, p2, _⟩ := I.list hB
  obtain ⟨n2, sl2, e2⟩ := PlainL.rec_ p2
  have l2 := r2.length
  have fit : i1.toArray.size + i2.toArray.size ≤ sizeLine := by rw [List.size_toArray, List.size_toArray]; omega
  have long : ¬ (!i1.toArray.isEmpty && Builtin.List.listTooLong (i1.toArray.size + i2.toArray.size)) = true := by
    rw [notLongL fit, Bool.and_false]; exact Bool.false_ne_true
  refine call_meets PySem.F.slot_list_extend ⟨_, e1, rfl⟩ PySem.F.entry_list_extend (PySem.F.args_list_extend_2 _ _) (lext long (by omega) (by omega)) ⟨e1, e2, ?_⟩
  refine ⟨.non, _, I.lset (its' := i1 ++ i2) hH e1 (by simp) (r1.append r2) ?_, rfl, q⟩
  rw [List.length_append]; omega
/-- of that builtin type; a dict may be locked -/
def tyW (K : PySem.W.Frag) (T : String) (x : V) (H : Hp) : Prop := tyV K T x H ∨ (T = "dict" ∧ ∃ p ks, x = .ref p ∧ Rd H p (.dK ks)) ∨ (T = "tuple" ∧ ∃ p xs, ∃ o : Obj, x = .ref p ∧ H p = some (.frz o (.tup xs)) ∧ o.dict = none)
theorem tyW_is {pins : List (Addr × Obj)} {σ : L2.St} {H : Hp} {s : Shared} {T : String} {x : V} {v : Value} (I : L2.Inv X pins σ H s) (r : RelV x v) (ty : tyW X.K T x H) :
    s.TypeIs v T ∧ ∀ a, v = .ref a → ∃ ob, s.heap.get? a = some ob ∧ ob.dict = none := by
  rcases ty with ty | ⟨rfl, p, ks, rfl, k⟩ | ⟨rfl, p, xs, o, rfl, k, kd⟩
  · exact tyV_is I r ty
  · cases r
    obtain ⟨_, _, _, _, o, _, _, e, ex, _⟩ := k.ok I.hok
    exact ⟨⟨o, e, ex.1⟩, fun a e2 => by cases e2; exact ⟨o, e, ex.2.1⟩⟩
  · cases r
    obtain ⟨e, _, its, _, o', e', c, _⟩ := I.hok p _ k
    rw [e] at e'; cases e'
    exact ⟨⟨o, e, c⟩, fun a e2 => by cases e2; exact ⟨o, e, kd⟩⟩
def tBW0 (K : PySem.W.Frag) (T : String) (r : V → List V → Hp → VK → Prop) (to : TE) : TE := fun σ H Q => to σ H fun x H1 => tyW K T x H1 ∧ r x [] H1 Q
def tBW (K : PySem.W.Frag) (T : String) (r : V → List V → Hp → VK → Prop) (to : TE) (t : TA) : TE := fun σ H Q => to σ H fun x H1 => tyW K T x H1 ∧ t σ H1 fun xs H2 => r x xs H2 Q
theorem pe_bw0 {o : Expr} {to : TE} {name : Str} {apos cpos : Pos} {T0 id : String} {r : V → List V → Hp → VK → Prop} (pa : PlainAttrs T0) (sl : Slot T0 name id) (hty : typeOf (.builtin id) = pure (.type "method_descriptor")) (hm : MtR X id r) (ho : PE X o to)
    (h1 : attributeBase o name X.env (eval o X.env) = eval o X.env) (h2 : (apos.endLine == cpos.line) = true) : PE X (.Call (.Attribute o name apos) [] [] cpos) (tBW0 X.K T0 r to) := by
  refine ⟨fun pins s σ H Q I h => ?_⟩
  refine wpAny_Call_method0_late h1 h2 (thn (ho.run pins s σ H _ I h) fun v s1 ⟨x, H1, I1, rx, ty, q1⟩ => ?_)
  obtain ⟨k1, k2⟩ := tyW_is I1 rx ty
  exact ⟨T0, id, pa, sl, hty, k1, k2, Calls.callWith_builtin rfl (PySem.evalArgs_none (hm pins s1 σ H1 x [] v [] Q I1 rx .nil q1))⟩
theorem pe_bw {o e : Expr} {es : List Expr} {to : TE} {t : TA} {name : Str} {apos cpos : Pos} {T0 id : String} {r : V → List V → Hp → VK → Prop} (pa : PlainAttrs T0) (sl : Slot T0 name id) (hty : typeOf (.builtin id) = pure (.type "method_descriptor")) (hm : MtR X id r) (ho : PE X o to) (ha : PA X (e :: es) t)
    (h1 : attributeBase o name X.env (eval o X.env) = eval o X.env)
    (h3 : ((backTo cpos (starEach (e :: es) X.env)).all (fun x => !x.1) && (backToKw cpos (keywordEach [] X.env)).all (fun x => x.1.isSome) && decide ((e :: es).length + ([] : List Keyword).length + (if ([] : List Keyword).isEmpty then 0 else 1) < 30)) = true)
    (h2 : (apos.endLine == cpos.line) = true) (h4 : starEach (e :: es) X.env = (false, eval e X.env) :: starEach es X.env) (h5 : (backTo cpos (starEach es X.env)).any (·.1) = false) :
    PE X (.Call (.Attribute o name apos) (e :: es) [] cpos) (tBW X.K T0 r to t) := by
  refine ⟨fun pins s σ H Q I h => ?_⟩
  refine wpAny_Call_method_late h1 h3 h2 rfl (thn (ho.run pins s σ H _ I h) fun v s1 ⟨x, H1, I1, rx, ty, q1⟩ => ?_)
  obtain ⟨k1, k2⟩ := tyW_is I1 rx ty
  refine ⟨T0, id, pa, sl, hty, k1, k2, ?_⟩
  have hA := ha.run cpos pins s1 σ H1 _ I1 q1
  rw [h4] at hA ⊢
  refine Calls.callWith_builtin (show (false || (backTo cpos (starEach es X.env)).any (·.1)) = false by rw [h5] <;> rfl) (Calls.evalArgs_plain ?_)
  exact thn hA fun us s2 ⟨vs, H2, I2, r2, q2⟩ => hm pins s2 σ H2 x vs v us Q I2 rx r2 q2
theorem mt_extend_T : MtR X "list.extend" (rM X.K A .extend) := by
  intro pins s σ H x xs v us Q I rx rs h
  obtain ⟨ρ, st, t, ts, W, R, h1, h2, h⟩ := h
  simp only [mfn, mExtend] at h
  split at h
  · cases h1 with | ref k =>
    obtain ⟨z, rfl, r1⟩ := one_rel h2
    split at h
    · rename_i xs0 ys ex ey
      obtain ⟨vs, g, q⟩ := R.lstAt k ex
      obtain ⟨a2, ws, rfl, g2, q2⟩ := R.lst r1 ey
      have hr := List.mem_of_getElem? k
      split at h
      · rename_i c
        refine mt_extF pins s σ H _ _ v us Q I rx rs ⟨_, _, vs, ws, rfl, rfl, g, g2, by rw [q.length, q2.length]; exact c, ?_⟩
        exact h .non _ ρ (Step.write hr g True.intro) (R.write k g True.intro fun s => ⟨_, upd_same, (q.step s).append (q2.step s)⟩) .non
      · exact h.elim
    · exact h.elim
  · exact h.elim
theorem mt_get_T (hu : X.A.units + 1 < cLine) : MtR X "dict.get" (rM X.K A .get) := by
  intro pins s σ H x xs v us Q I rx rs h
  obtain ⟨ρ, st, t, ts, W, R, h1, h2, h⟩ := h
  simp only [mfn, mGet] at h
  split at h
  · rename_i kvs ex
    obtain ⟨a, ks, rfl, g, q⟩ := R.map h1 ex
    obtain rfl : v = Value.ref _ := rx
    split at h
    · obtain ⟨z, rfl, r1⟩ := one_rel h2
      obtain ⟨u, rfl, ru⟩ := vals1 rs
      split at h
      · rename_i c
        obtain ⟨j, rfl⟩ := key_of_T r1 c
        refine d_get1 hu I (.inl ⟨ks, j, g, rfl, rfl⟩) ru fun w' s' I' rw' => ⟨_, H, I', rw', ?_⟩
        rcases dLook_val r1 q with ⟨q1, q2⟩ | ⟨w, z, q1, q2, q3⟩
        · rw [q1]; rw [q2] at h; exact h.same R .non
        · rw [q1]; rw [q2] at h; exact h.same R q3
      · exact h.elim
    · obtain ⟨z, z2, rfl, r1, r2⟩ := two_rel h2
      obtain ⟨u, u2, rfl, ru, ru2⟩ := vals2 rs
      split at h
      · rename_i c
        obtain ⟨j, rfl⟩ := key_of_T r1 c
        refine d_get2 hu I (.inl ⟨ks, j, g, rfl, rfl⟩) ru ru2 fun w' s' I' rw' => ⟨_, H, I', rw', ?_⟩
        rcases dLook_val r1 q with ⟨q1, q2⟩ | ⟨w, z, q1, q2, q3⟩
        · rw [q1]; rw [q2] at h; exact h.same R r2
        · rw [q1]; rw [q2] at h; exact h.same R q3
      · exact h.elim
    · exact h.elim
  · exact h.elim
theorem RKs.merge {K : PySem.W.Frag} {ρ : List Addr} {H : Hp} : ∀ {ks js : List (Key × V)} {kvs jvs : List (T × T)}, RKs K A ρ H ks kvs → RKs K A ρ H js jvs → RKs K A ρ H (mergeK js ks) (kvs.foldl (fun acc p => dPut p.1 p.2 acc) jvs)
  | _, _, _, _, .nil, h => h
  | _, _, _, _, .cons a b r, h => by
    have q := RKs.merge r (dPut_rel a b h)
    exact q
theorem mt_update_T : MtR X "dict.update" (rM X.K A .update) := by
  intro pins s σ H x xs v us Q I rx rs h
  obtain ⟨ρ, st, t, ts, W, R, h1, h2, h⟩ := h
  simp only [mfn, mUpdate] at h
  split at h
  · cases h1 with | ref k =>
    obtain ⟨z, rfl, r1⟩ := one_rel h2
    cases r1 with | rod g2 q2 =>
    split at h
    · rename_i kvs ex
      obtain ⟨ks, g, q⟩ := R.dicAt k ex
      have hr := List.mem_of_getElem? k
      split at h
      · rename_i c
        obtain ⟨o, g3⟩ := g2
        refine mt_update pins s σ H _ _ v us Q I rx rs ⟨_, _, ks, _, rfl, rfl, g, .inr ⟨o, g3⟩, fun e => ?_, by rw [q.length, q2.length]; exact c, ?_⟩
        · rw [e] at g; rw [g] at g3; cases g3
        · exact h .non _ ρ (Step.write hr g True.intro) (R.write k g True.intro fun s => ⟨_, upd_same, RKs.merge (q2.step s) (q.step s)⟩) .non
      · exact h.elim
    · exact h.elim
  · exact h.elim
theorem strs_rel {K : PySem.W.Frag} {ρ : List Addr} {H : Hp} : ∀ {vs : List V} {ts : List T} {ss : List Str}, RTs K A ρ H vs ts → strsOf ts = some ss → vs = ss.map V.str
  | _, _, _, .nil, e => by simp [strsOf] at e; subst e; rfl
  | _, _, _, .cons r rs, e => by
    cases r <;> simp [strsOf] at e
    obtain ⟨js, e1, rfl⟩ := e
    rw [strs_rel rs e1]; rfl
theorem mt_index_T : MtR X "tuple.index" (rM X.K A .index) := by
  intro pins s σ H x xs v us Q I rx rs h
  obtain ⟨ρ, st, t, ts, W, R, h1, h2, h⟩ := h
  simp only [mfn, mIndex] at h
  split at h
  · cases h1 with | ctp k q =>
    obtain ⟨z, rfl, r1⟩ := one_rel h2
    cases r1
    split at h
    · rename_i j ej
      obtain ⟨ys, e1, e2⟩ := Option.bind_eq_some_iff.mp ej
      obtain rfl := strs_rel q e1
      obtain ⟨o, k, _⟩ := k.ex
      unfold idxS at e2
      obtain ⟨hj, e3, e4⟩ := List.findIdx?_eq_some_iff_getElem.mp e2
      refine mt_tup_index pins s σ H _ _ v us Q I rx rs ⟨_, ys, _, j, rfl, rfl, .inl (.inr ⟨o, k⟩), ?_, fun m hm e => ?_, h.same R (.int _)⟩
      · rw [List.getElem?_eq_getElem hj]; exact congrArg some (of_decide_eq_true e3)
      · have h3 := e4 m hm
        rw [List.getElem?_eq_getElem (by omega)] at e
        exact h3 (decide_eq_true (Option.some.inj e))
    · exact h.elim
  · exact h.elim
/-- the base of a method call is no super() -/
theorem base_of {n : Nat} {C : Cmp} {o : Expr} {c : E} {m : Str} (h : compE n C o = some c) (env : PySem.Env) : attributeBase o m env (eval o env) = eval o env := by
  cases n with
  | zero => simp [compE] at h
  | succ n =>
    cases o <;> first | rfl | skip
    rename_i f es kws pos
    cases f <;> first | rfl | skip
    rename_i x p
    cases es <;> first | rfl | skip
    cases kws <;> first | rfl | skip
    unfold attributeBase
    simp only [compE] at h
    split at h
    · rename_i c
      have : (x != ("super" : Str)) = true := by simpa using c.2.2.1
      simp only [this, Bool.true_or, if_true]
    · cases h
theorem few_of {n : Nat} {C : Cmp} {es : List Expr} {cs : Es} (h : compEs n C es = some cs) (hl : es.length < 20) (pos : Pos) (env : PySem.Env) :
    ((backTo pos (starEach es env)).all (fun x => !x.1) && (backToKw pos (keywordEach [] env)).all (fun x => x.1.isSome)
      && decide (es.length + ([] : List Keyword).length + (if ([] : List Keyword).isEmpty then 0 else 1) < 30)) = true := by
  rw [(backTo_all pos _ (stars_of h env).1).2]
  have : decide (es.length + ([] : List Keyword).length + (if ([] : List Keyword).isEmpty then 0 else 1) < 30) = true := decide_eq_true (by simp; omega)
  rw [this]; rfl
theorem e_mcall (cx : CxE X A cl G ar C W) {o : Expr} {co : E} {ms : Str} {m : M} {ap cp : Pos} {es : List Expr} {cs : Es} {n n' : Nat} (hl : ap.endLine = cp.line) (hm : mName ms es.length = some m) (hco : compE n' C o = some co) (ho : PE X o (gE X A cl G W co))
    (hne : es ≠ []) (hlen : es.length < 20) (hes : compEs n C es = some cs) (ha : PA X es (tEs X.K A cl G W cs)) : PE X (.Call (.Attribute o ms ap) es [] cp) (gE X A cl G W (.mcall m co cs)) := by
  cases es with
  | nil => exact absurd rfl hne
  | cons e es =>
    cases n with
    | zero => simp [compEs] at hes
    | succ n =>
      have hes' := hes
      simp only [compEs] at hes
      split at hes
      · rename_i c c' g1 g2
        have fin : ∀ {TT : String}, (∀ {ρ : List Addr} {H : Hp} {st : Store} {x : V} {t : T}, Rel X.K A ρ H st → RT X.K A ρ H x t → mOk m t st = true → tyW X.K TT x H) →
            ∀ σ H Q, gE X A cl G W (.mcall m co cs) σ H Q → tBW X.K TT (rM X.K A m) (gE X A cl G W co) (tEs X.K A cl G W cs) σ H Q := fun {TT} hty σ H Q h => by
          obtain ⟨ρ, st, sl, R, S, h⟩ := h
          unfold evE at h
          refine ⟨ρ, st, sl, R, S, h.seq fun t st1 v H1 ρ1 s1 R1 v1 h1 => ?_⟩
          split at h1
          · rename_i hk
            refine ⟨hty R1 v1 hk, ρ1, st1, sl, R1, S.step s1, h1.seq fun ts st2 vs H2 ρ2 s2 R2 v2 h2 => ?_⟩
            exact ⟨ρ2, st2, t, ts, _, R2, v1.step s2, v2, h2⟩
          · exact h1.elim
        have tl : ∀ {ρ : List Addr} {H : Hp} {st : Store} {x : V} {t : T}, Rel X.K A ρ H st → RT X.K A ρ H x t → (lstOf st t).isSome = true → tyW X.K "list" x H := fun {ρ H st x t} R r k => by
          obtain ⟨ys, ey⟩ := Option.isSome_iff_exists.mp k
          obtain ⟨a, vs, rfl, g, q⟩ := R.lst r ey
          exact .inl (.inl ⟨rfl, vs, g⟩)
        have td : ∀ {ρ : List Addr} {H : Hp} {st : Store} {x : V} {t : T}, Rel X.K A ρ H st → RT X.K A ρ H x t → (mapOf st t).isSome = true → tyW X.K "dict" x H := fun {ρ H st x t} R r k => by
          obtain ⟨ys, ey⟩ := Option.isSome_iff_exists.mp k
          obtain ⟨a, vs, rfl, g, q⟩ := R.map r ey
          exact .inr (.inl ⟨rfl, a, vs, rfl, g⟩)
        have tt : ∀ {ρ : List Addr} {H : Hp} {st : Store} {x : V} {t : T}, Rel X.K A ρ H st → RT X.K A ρ H x t → mOk .index t st = true → tyW X.K "tuple" x H := fun {ρ H st x t} R r k => by
          cases r <;> first | (cases k; done) | skip
          rename_i q _
          obtain ⟨o, q1, q2⟩ := q.ex
          exact .inr (.inr ⟨rfl, _, _, o, rfl, q1, q2⟩)
        have hline : (ap.endLine == cp.line) = true := beq_iff_eq.mpr hl
        unfold mName at hm
        split at hm
        · rename_i q
          cases hm
          obtain ⟨rfl, _⟩ := q
          exact pe_w (pe_bw PySem.F.plainAttrs_list PySem.F.slot_list_append PySem.F.type_list_append mt_append_T ho ha (base_of hco _) (few_of hes' hlen cp _) hline (star_of g1 es X.env) (plain_of g2 cp X.env)) (fin tl)
        · split at hm
          · rename_i q
            cases hm
            obtain ⟨rfl, _⟩ := q
            exact pe_w (pe_bw PySem.F.plainAttrs_list PySem.F.slot_list_extend PySem.F.type_list_extend mt_extend_T ho ha (base_of hco _) (few_of hes' hlen cp _) hline (star_of g1 es X.env) (plain_of g2 cp X.env)) (fin tl)
          · split at hm
            · rename_i q
              cases hm
              obtain ⟨rfl, _⟩ := q
              exact pe_w (pe_bw PySem.F.plainAttrs_dict PySem.F.slot_dict_get PySem.F.type_dict_get (mt_get_T (by have := cx.units; omega)) ho ha (base_of hco _) (few_of hes' hlen cp _) hline (star_of g1 es X.env) (plain_of g2 cp X.env)) (fin td)
            · split at hm
              · rename_i q
                cases hm
                obtain ⟨rfl, _⟩ := q
                exact pe_w (pe_bw PySem.F.plainAttrs_dict PySem.F.slot_dict_update PySem.F.type_dict_update mt_update_T ho ha (base_of hco _) (few_of hes' hlen cp _) hline (star_of g1 es X.env) (plain_of g2 cp X.env)) (fin td)
              · split at hm
                · rename_i q
                  cases hm
                  obtain ⟨rfl, _⟩ := q
                  exact pe_w (pe_bw PySem.F.plainAttrs_tuple PySem.F.slot_tuple_index PySem.F.type_tuple_index mt_index_T ho ha (base_of hco _) (few_of hes' hlen cp _) hline (star_of g1 es X.env) (plain_of g2 cp X.env)) (fin tt)
                · cases hm
      · cases hes
end
end PF

end

section
set_option Elab.async false
set_option linter.all false
set_option maxRecDepth 100000
set_option maxHeartbeats 4000000
set_option autoImplicit false
/-! PfD8: fields and methods of own classes, objects made. -/
namespace PF
open PySem L2 PySem.Spec PyProof.Rows
theorem meth_tree {o : Expr} {name : Str} {apos pos : Pos} {args : List Expr} {env : PySem.Env} (hbase : attributeBase o name env (eval o env) = eval o env)
    (hfew : ((backTo pos (starEach args env)).all (fun x => !x.1) && (backToKw pos (keywordEach [] env)).all (fun x => x.1.isSome)
      && decide (args.length + ([] : List Keyword).length + (if ([] : List Keyword).isEmpty then 0 else 1) < 30)) = true)
    (hline : (apos.endLine == pos.line) = true) :
    eval (.Call (.Attribute o name apos) args [] pos) env = (eval o env >>= fun ov => standAt apos.atName >>= fun _ => holding [ov] (getMethod ov name (do return (← importBound o env).getD true)) >>= fun fx => callWith pos fx.1 fx.2 (backTo pos (starEach args env)) (backToKw pos (keywordEach [] env))) := by
  have hform : methodCallForm (args.length + ([] : List Keyword).length) (backTo pos (starEach args env)) (backToKw pos (keywordEach [] env)) = true := hfew
  have hpos : methodCallPos true o env apos pos = pure pos := by unfold methodCallPos; simp [hline]
  rw [arm_eval_Call, hbase]
  unfold methodCall
  rw [hform]
  simp only [hpos, calleeOf, if_true]
  rfl
section
variable {X : Cx}
/-- o.m(..): which class it is, is told when o has been run -/
def tOwnS (X : Cx) (m : Str) (E : L2.St → XK) (ta : TE) (t : TA) : TE := fun σ H Q => ta σ H fun x H1 =>
  ∃ a C dx fs f fd ps k sp, x = .ref a ∧ H1 a = some (.ins C dx fs) ∧ Cls X.K C ∧ Meth X.K C m f ∧ fs.lookup m = none ∧
    FnOk X.prog X.w X.K X.mg X.base (L2.CX X.prog X.w) k f fd ps sp ∧ Room k X.A ∧ Binds X.K fd ps [] ∧ t σ H1 fun vs H2 => sp (x :: vs) H2 Q (E σ)
theorem pe_ownS {o : Expr} {m : Str} {E : L2.St → XK} {ta : TE} {t : TA} {e1 : Expr} {er : List Expr} {ap cp : Pos} {pl : Sem Bool} (ho : PE X o ta) (hx : ∀ σ, PassesAt (L2.CX X.prog X.w) X σ (E σ)) (ha : PA X (e1 :: er) t)
    (h1 : starEach (e1 :: er) X.env = (false, eval e1 X.env) :: starEach er X.env) (h2 : (backTo cp (starEach er X.env)).any (·.1) = false)
    (ht : eval (.Call (.Attribute o m ap) (e1 :: er) [] cp) X.env = (eval o X.env >>= fun ov => standAt ap.atName >>= fun _ => holding [ov] (getMethod ov m pl) >>= fun fx => callWith cp fx.1 fx.2 (backTo cp (starEach (e1 :: er) X.env)) (backToKw cp (keywordEach [] X.env))) ) :
    PE X (.Call (.Attribute o m ap) (e1 :: er) [] cp) (tOwnS X m E ta t) := by
  constructor
  intro pn s0 σ H Q I0 hq
  refine PySem.W.methodCall_KW (pl := pl) (thn (ho.run pn s0 σ H _ I0 hq) fun u s1 ⟨x, H1, I1, rx, a, C, dx, fs, f, fd, ps, k, sp, ex, ea, cc, hm, l, F, hr, hb, q⟩ => ?_) ht
  subst ex
  obtain rfl : u = Value.ref a := rx
  apply getmeth_ok I1 ea cc hm l
  refine PySem.W.callWith_K (first := [.ref a]) (h₀ := X.base) I1.ok.mod.kin hm.kp (thn (ha.run cp pn s1 σ H1 _ I1 q) fun us s2 ⟨vs, H2, I2, r, q2⟩ => ⟨I2.kIn, ?_⟩) h1 h2
  exact run_fnS (us := .ref a :: us) (vs := .ref a :: vs) F hr hb (hx σ) I2 (.cons rfl r) q2
/-- C(..), its __init__ run; exceptions go to the slots σ -/
theorem run_makeS {pn : List (Addr × Obj)} {σ : L2.St} {H : Hp} {s0 : Shared} {Q : VK} {us : List Value} {vs : List V} {C f : Addr} {fd : FuncData} {ps : List Str} {sp : Sp} {k : Nat} {E : L2.St → XK} (M : Mk X.K C f) (F : FnOk X.prog X.w X.K X.mg X.base (L2.CX X.prog X.w) k f fd ps sp) (hr : Room (k + 1) X.A) (hb : Binds X.K fd ps [])
    (hx : ∀ σ, PassesAt (L2.CX X.prog X.w) X σ (E σ)) (I0 : Inv X pn σ H s0) (rv : Vals vs us)
    (hq : ∀ x dx, H x = none → H dx = none → dx ≠ x → sp (.ref x :: vs) (upd (upd H dx (.own x)) x (.ins C dx [])) (fun v H2 => v = .non ∧ Q (.ref x) H2) (E σ)) :
    wpAny (model X.prog X.w) X.A (call (.ref C) us) (EP X pn σ Q) X.xe s0 := by
  have q1 := hq (s0.heap.objs.size + 1) s0.heap.objs.size (I0.hok.fresh (Nat.le_succ _)) (I0.hok.fresh (Nat.le_refl _)) (Nat.ne_of_lt (Nat.lt_succ_of_le (Nat.le_refl _)))
  have J := Inv.made (C := C) I0
  have r2 : Vals (V.ref (s0.heap.objs.size + 1) :: vs) (Value.ref (s0.heap.objs.size + 1) :: us) := .cons rfl rv
  have hlen : (Value.ref (s0.heap.objs.size + 1) :: us).length = ps.length := by
    rw [← r2.length]; exact F.len _ _ _ _ q1
  have bb := hb _ (Value.ref (s0.heap.objs.size + 1) :: us) J.kIn (by rw [List.append_nil]; exact hlen)
  rw [List.append_nil] at bb
  refine wpAny_call (make_map (f := f) I0.kIn M.makes M.init (beq_iff_eq.mp M.fn) (codeAny_mono (F.run _ X.stack _ _ ⟨Value.ref (s0.heap.objs.size + 1) :: us, []⟩ _ _ _ (E σ) (hr.make C us [])
    (J.env0.make C us []) bb r2 q1) fun r s2 q2 => ?_))
  cases r with
  | error e => exact hx σ pn _ _ e s2 J q2
  | ok fl =>
    cases fl with
    | ret u =>
      obtain ⟨v, H3, J3, rv3, ev, q3⟩ := J.after q2
      subst ev
      exact ⟨rv3, V.ref (s0.heap.objs.size + 1), H3, J3, rfl, q3⟩
    | next => cases q2
    | brk => cases q2
    | cont => cases q2
def tMakeS (C : Addr) (sp : Sp) (E : L2.St → XK) (t : TA) : TE := fun σ H Q => t σ H fun vs H1 => ∀ x dx, H1 x = none → H1 dx = none → dx ≠ x →
  sp (.ref x :: vs) (upd (upd H1 dx (.own x)) x (.ins C dx [])) (fun v H2 => v = .non ∧ Q (.ref x) H2) (E σ)
theorem pe_makeS {C f : Addr} {fd : FuncData} {ps : List Str} {sp : Sp} {k : Nat} {E : L2.St → XK} {x : Str} {p cp : Pos} {e1 : Expr} {er : List Expr} {t : TA} (M : Mk X.K C f) (F : FnOk X.prog X.w X.K X.mg X.base (L2.CX X.prog X.w) k f fd ps sp) (hr : Room (k + 1) X.A) (hg : Gl X x) (hm : X.mg x = some (.ref C))
    (hb : Binds X.K fd ps []) (hx : ∀ σ, PassesAt (L2.CX X.prog X.w) X σ (E σ)) (ha : PA X (e1 :: er) t) (hd : (x == ("__debug__" : Str)) = false)
    (h1 : starEach (e1 :: er) X.env = (false, eval e1 X.env) :: starEach er X.env) (h2 : (backTo cp (starEach er X.env)).any (·.1) = false) :
    PE X (.Call (.Name x p) (e1 :: er) [] cp) (tMakeS C sp E t) := by
  constructor
  intro pn s0 σ H Q I0 hq
  apply wpAny_Call_Name_kw
  apply ld_glob I0 hg hm _ hd
  exact PySem.W.callWith_K (h₀ := X.base) I0.ok.mod.kin M.kp (thn (ha.run cp pn s0 σ H _ I0 hq) fun us s1 ⟨vs, H1, I1, r, q⟩ => ⟨I1.kIn, run_makeS M F hr hb hx I1 r q⟩) h1 h2
end

section
variable {K : PySem.W.Frag} {A : Ad} {ρ : List Addr} {H : Hp}
theorem RFs.look : ∀ {gs : List (Str × V)} {fs : List (Str × T)}, RFs K A ρ H gs fs → ∀ f : Str, (∀ t, fs.lookup f = some t → ∃ v, gs.lookup f = some v ∧ RT K A ρ H v t) ∧ (fs.lookup f = none → gs.lookup f = none)
  | _, _, .nil, f => ⟨fun t e => by simp at e, fun _ => rfl⟩
  | _, _, .cons (f := g) (v := v) (t := t) a r, f => by
    have ih := RFs.look r f
    rw [List.lookup_cons, List.lookup_cons]
    cases f == g with
    | true => exact ⟨fun t' e => by cases e; exact ⟨v, rfl, a⟩, fun e => by cases e⟩
    | false => exact ih
theorem RFs.put {f : Str} {v : V} {t : T} (rv : RT K A ρ H v t) : ∀ {gs : List (Str × V)} {fs : List (Str × T)}, RFs K A ρ H gs fs → RFs K A ρ H (putF f v gs) (putL f t fs)
  | _, _, .nil => .cons rv .nil
  | _, _, .cons (f := g) a r => by
    unfold putF putL
    by_cases e : g = f
    · rw [if_pos e, if_pos e]; subst e; exact .cons rv r
    · rw [if_neg e, if_neg e]; exact .cons a (RFs.put rv r)
theorem RFs.length : ∀ {gs : List (Str × V)} {fs : List (Str × T)}, RFs K A ρ H gs fs → gs.length = fs.length
  | _, _, .nil => rfl
  | _, _, .cons _ r => by simp [RFs.length r]
end
section
variable {X : Cx} {A : Ad} {cl : Call} {G : Tab} {ar : Nat → Nat} {C : Cmp} {W : WX}
/-- the cell of an object -/
theorem Rel.insAt {K : PySem.W.Frag} {ρ : List Addr} {H : Hp} {st : Store} (R : Rel K A ρ H st) {n : Nat} {a : Addr} {c : Nat} {fs : List (Str × T)} (h : ρ[n]? = some a) (e : st[n]? = some (.ins c fs)) :
    ∃ Ca dx gs, A.ca c = some Ca ∧ H a = some (.ins Ca dx gs) ∧ RFs K A ρ H gs fs := R.cell n a _ h e
theorem e_fld (cx : CxE X A cl G ar C W) {o : Expr} {co : E} {f : Str} {pos : Pos} {n' : Nat} (hco : compE n' C o = some co) (ho : PE X o (gE X A cl G W co)) : PE X (.Attribute o f pos) (gE X A cl G W (.fld co f)) := by
  refine pe_w (pe_fld ho (base_of hco _)) fun σ H Q h => ?_
  obtain ⟨ρ, st, sl, R, S, h⟩ := h
  unfold evE at h
  refine ⟨ρ, st, sl, R, S, h.seq fun t st1 v H1 ρ1 s1 R1 v1 h1 => ?_⟩
  split at h1
  · cases v1 with | ref k =>
    rename_i n a
    split at h1
    · rename_i c fs e
      obtain ⟨Ca, dx, gs, e1, e2, e3⟩ := R1.insAt k e
      split at h1
      · rename_i hf
        unfold Tab.fld at hf
        split at hf
        · rename_i OC eo
          obtain ⟨Ca', q1, q2, q3, _⟩ := cx.own c OC eo
          rw [e1] at q1; cases q1
          cases el : fs.lookup f with
          | none => rw [el] at h1; exact h1.elim
          | some t' =>
            rw [el] at h1
            obtain ⟨w, q4, q5⟩ := (e3.look f).1 t' el
            exact ⟨a, Ca, dx, gs, w, rfl, e2, q2, q3 f hf, q4, h1.same R1 q5⟩
        · cases hf
      · exact h1.elim
    · exact h1.elim
  · exact h1.elim
/-- o.m(..) of an own class -/
theorem e_own (cx : CxE X A cl G ar C W) {o : Expr} {co : E} {m : Str} {ap cp : Pos} {es : List Expr} {cs : Es} {n n' : Nat} (hc : C.calm = true) (hl : ap.endLine = cp.line) (hco : compE n' C o = some co) (ho : PE X o (gE X A cl G W co))
    (hne : es ≠ []) (hlen : es.length < 20) (hes : compEs n C es = some cs) (ha : PA X es (tEs X.K A cl G W cs)) : PE X (.Call (.Attribute o m ap) es [] cp) (gE X A cl G W (.own m co cs)) := by
  cases es with
  | nil => exact absurd rfl hne
  | cons e es =>
    cases n with
    | zero => simp [compEs] at hes
    | succ n =>
      have hes' := hes
      simp only [compEs] at hes
      split at hes
      · rename_i c c' g1 g2
        refine pe_w (pe_ownS ho (passAt cx.tk) ha (star_of g1 es X.env) (plain_of g2 cp X.env) (meth_tree (base_of hco _) (few_of hes' hlen cp _) (beq_iff_eq.mpr hl))) fun σ H Q h => ?_
        obtain ⟨ρ, st, sl, R, S, h⟩ := h
        unfold evE at h
        refine ⟨ρ, st, sl, R, S, h.seq fun t st1 v H1 ρ1 s1 R1 v1 h1 => ?_⟩
        split at h1
        · cases v1 with | ref k =>
          rename_i n0 a
          split at h1
          · rename_i c0 fs e
            obtain ⟨Ca, dx, gs, e1, e2, e3⟩ := R1.insAt k e
            split at h1
            · rename_i i0 hf
              unfold Tab.meth at hf
              split at hf
              · rename_i OC eo
                split at hf
                · rename_i hn
                  obtain ⟨Ca', q1, q2, q3, q4⟩ := cx.own c0 OC eo
                  rw [e1] at q1; cases q1
                  obtain ⟨f, fd, ps, kk, m1, m2, m3, m4⟩ := q4 m i0 hf
                  refine ⟨a, Ca, dx, gs, f, fd, ps, kk, _, rfl, e2, q2, m1, (e3.look m).2 (Option.isNone_iff_eq_none.mp hn), m3, m4 (cx.calm hc), m2, ?_⟩
                  refine ⟨ρ1, st1, sl, R1, S.step s1, h1.seq fun ts st2 vs H2 ρ2 s2 R2 v2 h2 => ?_⟩
                  have hlen : (T.ref n0 :: ts).length = ar i0 := by
                    by_cases q : (T.ref n0 :: ts).length = ar i0
                    · exact q
                    · rw [cx.art i0 _ st2 q] at h2; exact h2.elim
                  exact ⟨ρ2, st2, _, R2, .cons (RT.step s2 (.ref k)) v2, hlen, h2⟩
                · cases hf
              · cases hf
            · exact h1.elim
          · exact h1.elim
        · exact h1.elim
      · cases hes
/-- C(..) of an own class -/
theorem e_make (cx : CxE X A cl G ar C W) {x : Str} {p cp : Pos} {es : List Expr} {cs : Es} {c n : Nat} (h1 : glB C.sc x = true) (h2 : ¬ x = "__debug__") (hc : C.calm = true) (h3 : idx C.gn.own x = some c)
    (hne : es ≠ []) (hes : compEs n C es = some cs) (ha : PA X es (tEs X.K A cl G W cs)) : PE X (.Call (.Name x p) es [] cp) (gE X A cl G W (.make c cs)) := by
  obtain ⟨Ca, i, f, k1, k2, k3, m1, k4⟩ := cx.mak c x (idx_some h3)
  cases es with
  | nil => exact absurd rfl hne
  | cons e es =>
    cases n with
    | zero => simp [compEs] at hes
    | succ n =>
      have hes' := hes
      simp only [compEs] at hes
      split at hes
      · rename_i c1 c2 g1 g2
        rcases k4 with k4 | ⟨fd, ps, kk, m2, m3, m4⟩
        · refine ⟨fun pn s0 σ H Q I0 h => ?_⟩
          have hq : tEs X.K A cl G W cs σ H (fun _ _ => False) := by
            obtain ⟨ρ, st, sl, R, S, h⟩ := h
            unfold evE at h
            refine ⟨ρ, st, sl, R, S, h.seq fun ts st1 vs H1 ρ1 s1 R1 v1 q => ?_⟩
            rw [k3] at q
            dsimp only at q
            rw [k4] at q
            exact q.elim
          apply wpAny_Call_Name_kw
          apply ld_glob I0 (gl_of cx h1) k1 _ (neq_of h2)
          exact PySem.W.callWith_K (h₀ := X.base) I0.ok.mod.kin m1.kp (thn (ha.run cp pn s0 σ H _ I0 hq) fun us s1 ⟨vs, H1, I1, r, q⟩ => q.elim) (star_of g1 es X.env) (plain_of g2 cp X.env)
        · refine pe_w (pe_makeS m1 m3 (m4 (cx.calm hc)) (gl_of cx h1) k1 m2 (passAt cx.tk) ha (neq_of h2) (star_of g1 es X.env) (plain_of g2 cp X.env)) fun σ H Q h => ?_
          obtain ⟨ρ, st, sl, R, S, h⟩ := h
          unfold evE at h
          refine ⟨ρ, st, sl, R, S, h.seq fun ts st1 vs H1 ρ1 s1 R1 v1 q => ?_⟩
          intro a dx ha hdx hne'
          rw [k3] at q
          dsimp only at q
          have R2 : Rel X.K A ρ1 (upd H1 dx (.own a)) st1 := R1.new hdx
          have ha2 : upd H1 dx (.own a) a = none := by rw [upd_ne (Ne.symm hne')]; exact ha
          have R3 : Rel X.K A (ρ1 ++ [a]) (upd (upd H1 dx (.own a)) a (.ins Ca dx [])) (st1 ++ [.ins (OFF + c) []]) := R2.alloc ha2 fun ρ' s => ⟨Ca, dx, [], k2, upd_same, .nil⟩
          have s3 : Step X.K ρ1 H1 (ρ1 ++ [a]) (upd (upd H1 dx (.own a)) a (.ins Ca dx [])) := (Step.new hdx).trans (Step.push (Step.new ha2) (.inr ha2))
          have hlen : (T.ref st1.length :: ts).length = ar (i + BIG) := by
            by_cases z : (T.ref st1.length :: ts).length = ar (i + BIG)
            · exact z
            · rw [cx.art (i + BIG) _ _ z] at q; exact q.elim
          refine ⟨ρ1 ++ [a], _, _, R3, .cons (.ref R1.idx) (v1.step s3), hlen, ?_⟩
          refine (OkG.base q s3).seq fun t st' b H2 ρ2 s2 R2' v2 q2 => ?_
          cases t <;> first | exact q2.elim | skip
          cases v2
          exact ⟨rfl, q2.same R2' (.ref (pre_get s2.pre R1.idx))⟩
      · cases hes
/-- o.f = v -/
theorem g_fld (cx : CxE X A cl G ar C W) {o : Expr} {co : E} {f : Str} {pos : Pos} (ho : PE X o (gE X A cl G W co)) : PG X (.Attribute o f pos) (tTg X.K A cl G (.fld co f)) := by
  refine ⟨fun pins s σ H v u Q I r h => ?_⟩
  rw [arm_assign_Attribute]
  obtain ⟨ρ, st, sl, t, R, S, rt, h⟩ := h
  unfold evTg at h
  have h := h.mono (fun _ _ q => q) (W' := fun k d H' => W k d σ H') fun _ _ _ z => False.elim z
  have q0 : gE X A cl G W co σ H fun x H1 => ∃ a C dx fs, x = V.ref a ∧ H1 a = some (.ins C dx fs) ∧ L2.Cls X.K C ∧ NoAttr X.K C f ∧ fs.length < 1000 ∧ Q σ (upd H1 a (.ins C dx (putF f v fs))) := by
    refine ⟨ρ, st, sl, R, S, h.seq fun t1 st1 v1 H1 ρ1 s1 R1 r1 h1 => ?_⟩
    split at h1
    · cases r1 with | ref k =>
      rename_i n a
      split at h1
      · rename_i c fs e
        obtain ⟨Ca, dx, gs, e1, e2, e3⟩ := R1.insAt k e
        split at h1
        · rename_i hf
          obtain ⟨hf1, hf⟩ := hf
          unfold Tab.fld at hf
          split at hf
          · rename_i OC eo
            obtain ⟨Ca', q1, q2, q3, _⟩ := cx.own c OC eo
            rw [e1] at q1; cases q1
            refine ⟨a, Ca, dx, gs, rfl, e2, q2, q3 f hf, by rw [e3.length]; omega, ?_⟩
            have hr := List.mem_of_getElem? k
            have sW : Step X.K ρ1 H1 ρ1 (upd H1 a (.ins Ca dx (putF f v gs))) := Step.write hr e2 True.intro
            exact h1 σ _ ρ1 sW (R1.write k e2 True.intro fun s => ⟨Ca, dx, _, e1, upd_same, RFs.put ((rt.step s1).step s) (RFs.kp s.toKp e3)⟩) ⟨(S.step s1).step sW, fun _ _ => rfl⟩
          · cases hf
        · exact h1.elim
      · exact h1.elim
    · exact h1.elim
  refine wpAny_bind (wpAny_holding (thn (ho.run pins s σ H _ I q0) fun ov s1 ⟨x, H1, I1, r1, a, Ca, dx, fs, ex, ea, k1, k2, k3, q1⟩ => ?_))
  subst ex
  obtain rfl : ov = Value.ref a := r1
  refine wpAny_bind (wpAny_standAt (wpAny_bind (wpAny_holding (setattr_ok I1 ea k1 k2 k3 r fun s3 I3 => ?_))))
  exact wpAny_release ⟨σ, _, I3, q1⟩
end
end PF

end

section
set_option Elab.async false
set_option linter.all false
set_option maxRecDepth 100000
set_option maxHeartbeats 2000000
set_option autoImplicit false
/-! PfD4: subscripts, dicts, targets, what is walked. -/
namespace PF
open PySem L2 PySem.Spec PyProof.Rows

/-! ### a tuple turned round -/
section
variable {prog : Program} {w : World} {A : Around} {E : Value → Shared → Prop} {s : Shared}
theorem sliceApplied_rev {sl : Addr} {vs : Value} {n : Nat} {Q : Int × Int × Nat → Shared → Prop} (hs : s.heap.IsSliceOf sl .none .none vs) (ps : IsPart vs (some (-1)))
    (h : Q ((n : Int) - 1, -1, n) s) : wpAny (model prog w) A (Builtin.Slice.sliceApplied (.ref sl) (pure (n : Int))) Q E s := by
  obtain ⟨os, hos, hcs, hds⟩ := id hs
  unfold Builtin.Slice.sliceApplied Builtin.Slice.sliceFields
  refine wpAny_bind (wpAny_bind (wpAny_field hos hds (x := .none) rfl (wpAny_bind (wpAny_field hos hds (x := .none) rfl (wpAny_bind (wpAny_field hos hds (x := vs) rfl (wpAny_pure ?_)))))))
  refine wpAny_bind (HT.slicePart_ ps ?_)
  show wpAny _ _ (if ((-1 : Int) == 0) = true then _ else _) _ _ s
  rw [if_neg (by decide)]
  refine wpAny_bind (HT.slicePart_ .none (wpAny_bind (HT.slicePart_ .none (wpAny_bind (wpAny_pure ?_)))))
  show wpAny _ _ (pure ((n : Int) - 1, (-1 : Int), Builtin.Slice.slicePlaces ((n : Int) - 1) (-1) (-1))) _ _ s
  have e : Builtin.Slice.slicePlaces ((n : Int) - 1) (-1) (-1) = n := by
    unfold Builtin.Slice.slicePlaces
    have h1 : ¬ (-1 : Int) > 0 := by omega
    simp only [h1, if_false]
    split
    · have : (n : Int) - 1 - -1 - 1 = n - 1 := by omega
      rw [this]
      have : (- -1 : Int) = 1 := rfl
      rw [this, Int.ediv_one]; omega
    · omega
  rw [e]
  exact wpAny_pure h
theorem pick_rev (xs : Array Value) : ((List.range xs.size).filterMap fun (m : Nat) => xs[(((xs.size : Nat) : Int) - 1 + (m : Int) * -1).toNat]?).toArray = xs.toList.reverse.toArray := by
  congr 1
  have e : ∀ m ∈ List.range xs.size, xs[(((xs.size : Nat) : Int) - 1 + (m : Int) * -1).toNat]? = (xs.toList.reverse)[m]? := fun m hm => by
    have hm' : m < xs.size := List.mem_range.mp hm
    have h1 : (((xs.size : Nat) : Int) - 1 + (m : Int) * -1).toNat = xs.size - 1 - m := by omega
    rw [h1, List.getElem?_reverse (by simpa using hm')]
    simp
  have : ∀ (l : List Nat), (∀ m ∈ l, m ∈ List.range xs.size) → l.filterMap (fun (m : Nat) => xs[(((xs.size : Nat) : Int) - 1 + (m : Int) * -1).toNat]?) = l.filterMap fun m => (xs.toList.reverse)[m]? := by
    intro l hl
    induction l with
    | nil => rfl
    | cons a l ih =>
      simp only [List.filterMap_cons]
      rw [e a (hl a List.mem_cons_self), ih fun m hm => hl m (List.mem_cons_of_mem _ hm)]
  rw [this _ fun _ h => h]
  have hl : xs.size = xs.toList.reverse.length := by simp
  rw [hl]
  generalize xs.toList.reverse = ys
  have key : ∀ n, n ≤ ys.length → (List.range n).filterMap (fun m => ys[m]?) = ys.take n := by
    intro n
    induction n with
    | zero => intro _; simp
    | succ n ih =>
      intro hn
      have h1 : n < ys.length := by omega
      rw [List.range_succ, List.filterMap_append, ih (by omega), List.take_succ]
      congr 1
  rw [key _ (Nat.le_refl _), List.take_length]
theorem getItem_tuple_rev {t sl : Addr} {items : Array Value} {vs : Value} {Q : Value → Shared → Prop} (ht : IsTup s.heap t items) (hs : s.heap.IsSliceOf sl .none .none vs) (ps : IsPart vs (some (-1)))
    (h : Q (.ref s.heap.objs.size) { s with heap := s.heap.push { cls := .type "tuple", data := .seq items.toList.reverse.toArray } })
    (hsz : items.size ≤ sizeLine) : wpAny (model prog w) A (getItem (.ref t) (.ref sl)) Q E s := by
  have htake : sizeOk (.seq items.toList.reverse.toArray) := by
    show items.toList.reverse.toArray.size ≤ sizeLine
    rw [List.size_toArray, List.length_reverse, Array.length_toList]
    exact hsz
  obtain ⟨os, hos, hcs, hds⟩ := id hs
  have hTs : s.TypeIs (.ref sl) "slice" := ⟨os, hos, hcs⟩
  unfold getItem
  try with_reducible refine wpAny_holding ?_
  first | refine wpAny_bind (wpAny_pure ?_) | skip
  refine wpAny_bind (wpAny_sequenceKey ht.typeIs (by decide) ?_)
  refine wpAny_bind (wpAny_callSpecial?_slot (name := Str.ofString "__getitem__") ht.typeIs PyProof.Rows.slot_tuple_getitem
    (wpAny_call_entry PyProof.Rows.slot_tuple_getitem ht.typeIs entry_tuple_getitem ?_ (args_tuple_getitem _ _)))
  show wpAny _ _ (Builtin.Tuple.tupleItemsOf (.ref t) >>= _) _ _ s
  refine wpAny_bind (tupleItemsOf_ ht ?_)
  refine wpAny_bind (wpAny_typeOf hTs ?_)
  rw [if_pos (by decide)]
  refine wpAny_bind (sliceApplied_rev hs ps ?_)
  have hno : ¬ (((((items.size : Nat) : Int) - 1) == 0 && (-1 : Int) == 1 && items.size == items.size) = true) := by
    intro q
    rw [Bool.and_eq_true, Bool.and_eq_true] at q
    exact absurd q.1.2 (by decide)
  show wpAny _ _ (if ((((items.size : Nat) : Int) - 1) == 0 && (-1 : Int) == 1 && items.size == items.size) = true then _ else _) _ _ s
  rw [if_neg hno, pick_rev]
  first
    | exact wpAny_bind (m := Builtin.Tuple.tupleExact _) (wpAny_newObj_type (wpAny_pure ⟨_, rfl, wpAny_pure h⟩) htake)
    | exact wpAny_bind (m := Builtin.Tuple.tupleExact _) (wpAny_newObj_type (wpAny_bind (wpAny_pure (wpAny_pure ⟨_, rfl, wpAny_pure h⟩))) htake)
    | exact wpAny_bind (wpAny_bind (m := Builtin.Tuple.tupleExact _) (wpAny_newObj_type (wpAny_pure (wpAny_pure ⟨_, rfl, wpAny_pure h⟩)) htake))
    | exact wpAny_bind (wpAny_bind (m := Builtin.Tuple.tupleExact _) (wpAny_newObj_type (wpAny_pure ⟨_, rfl, wpAny_pure h⟩) htake))
end
section
variable {X : Cx} {A : Ad} {cl : Call} {G : Tab} {ar : Nat → Nat} {C : Cmp} {W : WX}
def tRevA (K : PySem.W.Frag) (te : TE) : TE := fun σ H Q => te σ H fun x H1 => ∃ a xs, x = .ref a ∧ ((SqL K H1 a xs ∧ ∀ p, H1 p = none → Q (.ref p) (upd H1 p (.lst xs.reverse))) ∨ (SqT K H1 a xs ∧ ∀ p, H1 p = none → Q (.ref p) (upd H1 p (.tup xs.reverse))))
theorem pe_revA {e : Expr} {te : TE} {k : Nat} {p1 p2 p3 pos : Pos} (he : PE X e te) : PE X (.Subscript e (.Slice none none (some (.UnaryOp .USub (.Constant (.int 1) k p1) p2)) p3) pos) (tRevA X.K te) := by
  refine ⟨fun pins s σ H Q I h => ?_⟩
  refine Subscript_ (thn (he.run pins s σ H _ I h) fun v s1 ⟨x, H1, I1, r1, q1⟩ => ?_)
  obtain ⟨a, xs, ex, hq⟩ := q1
  subst ex
  cases r1
  have hst : PO X (some (.UnaryOp .USub (.Constant (.int 1) k p1) p2)) (tPart (tUn (rU fun i => .int (-i)) (tC (.int 1)))) := po_some (pe_un un_neg pe_int)
  refine wpAny_Slice (thn (po_none.run pins s1 σ H1 (fun o H2 => o = none ∧ H2 = H1) I1 ⟨rfl, rfl⟩) fun vl s2 ⟨l, H2, I2, pl, el, e2⟩ => ?_)
  subst el e2
  refine thn (po_none.run pins s2 σ H2 (fun o H3 => o = none ∧ H3 = H2) I2 ⟨rfl, rfl⟩) fun vu s3 ⟨u, H3, I3, pu, eu, e3⟩ => ?_
  subst eu e3
  refine thn (hst.run pins s3 σ H3 (fun o H4 => o = some (-1) ∧ H4 = H3) I3 ⟨1, rfl, -1, rfl, rfl, rfl⟩) fun vs s4 ⟨o, H4, I4, ps, eo, e4⟩ => ?_
  subst eo e4
  have I5 : L2.Inv X pins σ H4 { s4 with heap := s4.heap.push { cls := .type "slice", data := .fields #[vl, vu, vs] } } := I4.kept (t' := s4.toks) fun b ob q => Heap.get?_push_of_some _ q
  show wpAny (model X.prog X.w) X.A (subscriptTail e (.Slice none none (some (.UnaryOp .USub (.Constant (.int 1) k p1) p2)) p3) (.ref a) (.ref s4.heap.objs.size)) (EP X pins σ Q) X.xe { s4 with heap := s4.heap.push { cls := .type "slice", data := .fields #[vl, vu, vs] } }
  rcases hq with ⟨hx, q⟩ | ⟨hx, q⟩
  · obtain ⟨its, r, ht, hz⟩ := I5.list hx
    have hlen := r.length
    refine tail_any (ops := [.ref a, .ref s4.heap.objs.size]) ht.isList.typeIs (PySem.slot_list_getitem.lookup) ?_ (by with_unfolding_all rfl)
    refine wpAny_getItem_list_slice ht.isList (Heap.IsSliceOf.new _ vl vu vs) pl pu ps (by decide) ?_ (by rw [List.size_toArray]; omega)
    rw [PySem.W.krv_pick]
    refine ⟨.ref _, _, I5.laid (t' := s4.toks) (o := .lst xs.reverse) (fun b ob q => Heap.get?_push_of_some _ q) (Nat.le_refl _) ?_, rfl, q _ (I5.hok.fresh (Nat.le_refl _))⟩
    exact ⟨by rw [List.length_reverse]; exact hz, _, 0, r.reverse, Heap.get?_push_size _ rfl⟩
  · obtain ⟨its, r, ht, hz⟩ := I5.tuple hx
    have hlen := r.length
    cases pl; cases pu
    refine tail_any (ops := [.ref a, .ref s4.heap.objs.size]) ht.typeIs (PyProof.Rows.slot_tuple_getitem.lookup) ?_ (by with_unfolding_all rfl)
    refine getItem_tuple_rev ht (Heap.IsSliceOf.new _ _ _ vs) ps ?_ (by rw [List.size_toArray]; omega)
    refine ⟨.ref _, _, I5.laid (t' := s4.toks) (o := .tup xs.reverse) (fun b ob q => Heap.get?_push_of_some _ q) (Nat.le_refl _) ?_, rfl, q _ (I5.hok.fresh (Nat.le_refl _))⟩
    exact ⟨by rw [List.length_reverse]; exact hz, _, r.reverse, ⟨_, Heap.get?_push_size _ rfl, rfl, _, rfl⟩⟩
theorem e_rev {a : Expr} {ca : E} {k : Nat} {p1 p2 p3 pos : Pos} (ha : PE X a (gE X A cl G W ca)) : PE X (.Subscript a (.Slice none none (some (.UnaryOp .USub (.Constant (.int 1) k p1) p2)) p3) pos) (gE X A cl G W (.rev ca)) := by
  refine pe_w (pe_fz (pe_revA ha)) fun σ H Q h => ?_
  obtain ⟨ρ, st, sl, R, S, h⟩ := h
  unfold evE at h
  refine ⟨ρ, st, sl, R, S, h.seq fun t st1 v H1 ρ1 s1 R1 v1 h1 => ?_⟩
  unfold revT at h1
  split at h1
  · cases v1 with | tup k r => exact ⟨_, _, rfl, .inr ⟨k, fun p hp => .inl (h1.newTup R1 r.rev p hp)⟩⟩
  · split at h1
    · rename_i ys ey
      obtain ⟨a, vs, rfl, g, q⟩ := R1.lst v1 ey
      exact ⟨_, vs, rfl, .inl ⟨g, h1.newF R1 q.rev⟩⟩
    · exact h1.elim
theorem plainIx_of {n : Nat} {C : Cmp} {i : Expr} {c : E} (h : compE n C i = some c) : PlainIx i := by
  cases n with
  | zero => simp [compE] at h
  | succ n => cases i <;> first | (intro o i; rfl) | (simp [compE] at h)
theorem e_ix (cx : CxE X A cl G ar C W) {a i : Expr} {ca ci : E} {pos : Pos} (ha : PE X a (gE X A cl G W ca)) (hi : PE X i (gE X A cl G W ci)) (hp : PlainIx i) : PE X (.Subscript a i pos) (gE X A cl G W (.ix ca ci)) := by
  refine pe_w (pe_ix (ix_all (A := A) (by have := cx.units; omega)) ha hi hp) fun σ H Q h => ?_
  obtain ⟨ρ, st, sl, R, S, h⟩ := h
  unfold evE at h
  refine ⟨ρ, st, sl, R, S, h.seq fun t st1 v H1 ρ1 s1 R1 v1 h1 => ?_⟩
  refine ⟨ρ1, st1, sl, R1, S.step s1, h1.seq fun u st2 w H2 ρ2 s2 R2 w2 h2 => ?_⟩
  exact ⟨ρ2, st2, t, u, _, R2, v1.step s2, w2, h2⟩
theorem o_none : PO X none (tEo X.K A cl G W .none) := po_w po_none fun σ H Q h => by
  obtain ⟨ρ, st, sl, R, S, h⟩ := h
  unfold evEo at h
  exact h none H ρ .refl R rfl
theorem o_some {e : Expr} {c : E} (he : PE X e (gE X A cl G W c)) : PO X (some e) (tEo X.K A cl G W (.some c)) := po_w (po_some he) fun σ H Q h => by
  obtain ⟨ρ, st, sl, R, S, h⟩ := h
  unfold evEo at h
  refine ⟨ρ, st, sl, R, S, h.seq fun t st1 v H1 ρ1 s1 R1 v1 h1 => ?_⟩
  cases v1 <;> first | exact h1.elim | skip
  exact ⟨_, rfl, h1 _ H1 ρ1 .refl R1 rfl⟩
theorem e_slc {a : Expr} {lo hi : Option Expr} {ca : E} {cl' ch : Eo} {p pos : Pos} (ha : PE X a (gE X A cl G W ca)) (hl : PO X lo (tEo X.K A cl G W cl')) (hh : PO X hi (tEo X.K A cl G W ch)) : PE X (.Subscript a (.Slice lo hi none p) pos) (gE X A cl G W (.slc ca cl' ch)) := by
  refine pe_w (pe_slice (sl_all (A := A)) ha hl hh) fun σ H Q h => ?_
  obtain ⟨ρ, st, sl, R, S, h⟩ := h
  unfold evE at h
  refine ⟨ρ, st, sl, R, S, h.seq fun t st1 v H1 ρ1 s1 R1 v1 h1 => ?_⟩
  refine ⟨ρ1, st1, sl, R1, S.step s1, h1.seq fun u st2 w H2 ρ2 s2 R2 w2 h2 => ?_⟩
  subst w2
  refine ⟨ρ2, st2, sl, R2, (S.step s1).step s2, h2.seq fun u3 st3 w3 H3 ρ3 s3 R3 w3' h3 => ?_⟩
  subst w3'
  exact ⟨ρ3, st3, t, _, R3, (v1.step s2).step s3, h3⟩

/-! ### dicts -/
inductive RPs (K : PySem.W.Frag) (A : Ad) (ρ : List Addr) (H : Hp) : List (V × V) → List (T × T) → Prop
  | nil : RPs K A ρ H [] []
  | cons {x y : V} {ps : List (V × V)} {t u : T} {kvs : List (T × T)} : RT K A ρ H x t → isKey t = true → RT K A ρ H y u → RPs K A ρ H ps kvs → RPs K A ρ H ((x, y) :: ps) ((t, u) :: kvs)
def trs (K : PySem.W.Frag) (A : Ad) (cl : Call) (G : Tab) (W : WX) : KVs → List (TE × TE)
  | .nil => []
  | .cons k v r => (tE K A cl G W k, tE K A cl G W v) :: trs K A cl G W r
theorem pairs_seq : ∀ (c : KVs) {ρ : List Addr} {H : Hp} {st : Store} {sl : Sl} {σ : L2.St} {Q : List (V × V) → Hp → Prop} {W' : Value → Option Addr → Hp → Prop}, Rel X.K A ρ H st → RSl X.K A ρ H σ sl → (∀ k d H', W' k d H' → W k d σ H') →
    OkG X.K A (RPs X.K A) ρ H (evKV cl G c sl st) Q W' → tPairs (trs X.K A cl G W c) σ H Q
  | .nil, ρ, H, st, sl, σ, Q, W', R, S, hw, h => by
    unfold evKV at h
    exact h [] H ρ .refl R .nil
  | .cons k v r, ρ, H, st, sl, σ, Q, W', R, S, hw, h => by
    unfold evKV at h
    have h := h.mono (fun _ _ q => q) hw
    refine ⟨ρ, st, sl, R, S, h.seq fun t st1 x H1 ρ1 s1 R1 v1 h1 => ?_⟩
    refine ⟨ρ1, st1, sl, R1, S.step s1, h1.seq fun u st2 y H2 ρ2 s2 R2 v2 h2 => ?_⟩
    refine pairs_seq r R2 ((S.step s1).step s2) (fun _ _ _ q => q) (h2.seq (rr := RPs X.K A) fun kvs st3 ps H3 ρ3 s3 R3 v3 h3 => ?_)
    split at h3
    · rename_i c
      exact h3 _ H3 ρ3 .refl R3 (.cons ((v1.step s2).step s3) c (v2.step s3) v3)
    · exact h3.elim
theorem RPs.keys {K : PySem.W.Frag} {ρ : List Addr} {H : Hp} : ∀ {ps : List (V × V)} {kvs : List (T × T)}, RPs K A ρ H ps kvs → ∃ ks : List (Key × V), ps = ks.map (fun kv => (kV kv.1, kv.2)) ∧ RKs K A ρ H ks kvs ∧ ks.length = kvs.length
  | _, _, .nil => ⟨[], rfl, .nil, rfl⟩
  | _, _, .cons a b c r => by
    obtain ⟨ks, e, q, l⟩ := RPs.keys r
    obtain ⟨j, rfl⟩ := key_of_T a b
    exact ⟨(j, _) :: ks, by rw [e]; rfl, .cons a c q, by simp [l]⟩
theorem e_dct {m : Bool} {ks : List (Option Expr)} {vs : List Expr} {c : KVs} {pos : Pos} (hp : PPs X pos ks vs (trs X.K A cl G W c)) (hall : ks.all (·.isSome) = true) (hl : ks.length = vs.length) (h15 : ks.length ≤ 15) (hc : ks = [] → c = .nil) : PE X (.Dict ks vs pos) (gE X A cl G W (.dct m c)) := by
  have core : ∀ σ H Q, gE X A cl G W (.dct m c) σ H Q → tDisp (trs X.K A cl G W c) σ H (Fz Q) := fun σ H Q h p hpn => by
    obtain ⟨ρ, st, sl, R, S, h⟩ := h
    unfold evE at h
    have s0 : Step X.K ρ H ρ (upd H p (.dK [])) := Step.new hpn
    have np : p ∉ ρ := R.fresh hpn
    refine pairs_seq c (R.new hpn) (S.step s0) (fun _ _ _ q => q) (h.seqO (rr := RPs X.K A) s0 fun kvs st' ps H2 ρ2 s2 R2 r2 h2 => ?_)
    have g := s2.fr p _ upd_same np
    have np2 : p ∉ ρ2 := s2.out upd_same np
    obtain ⟨ks', e1, q', l'⟩ := r2.keys
    split at h2
    · rename_i c15
      refine ⟨g, ks', e1, by rw [l']; exact c15, ?_⟩
      exact OkG.madeD hpn ((s0.trans s2).off hpn) np2 upd_same (R2.off np2 g True.intro) ((RKs.merge q' .nil).off g True.intro) h2
    · exact h2.elim
  by_cases h0 : ks = []
  · subst h0
    have hv : vs = [] := by cases vs with | nil => rfl | cons _ _ => cases hl
    subst hv
    refine pe_w (pe_fz pe_dnewK) fun σ H Q h p hpn => ?_
    have q := core σ H Q h p hpn
    have hc := hc rfl
    subst hc
    obtain ⟨g, ks', e, _, q⟩ := q
    have : ks' = [] := by cases ks' with | nil => rfl | cons _ _ => cases e
    subst this
    have q : Fz Q (.ref p) (upd (upd H p (.dK [])) p (.dK [])) := q
    rw [upd_upd] at q
    exact q
  · exact pe_w (pe_fz (pe_disp hp hall hl h0 h15)) core
end
end PF

end

section
set_option Elab.async false
set_option linter.all false
set_option maxRecDepth 100000
set_option maxHeartbeats 4000000
set_option autoImplicit false
/-! PfZ: zip and enumerate of lists and tuples in any mix. -/
namespace PF
open PySem L2 PySem.Spec PyProof.Rows

/-- κ: a tuple, else a list -/
def SqK (κ : Bool) (K : PySem.W.Frag) (H : Hp) (a : Addr) (xs : List V) : Prop := if κ then SqT K H a xs else SqL K H a xs
def SeqHp (κ : Bool) (h : Heap) (a : Addr) (items : Array Value) : Prop := if κ then h.IsTuple a items else h.IsList a items
def IterHp (κ : Bool) (h : Heap) (it a : Addr) (i : Nat) : Prop := if κ then h.IsTupleIter it a i else h.IsListIter it a i
def itName (κ : Bool) : String := if κ then "tuple_iterator" else "list_iterator"
theorem drawsK (κ : Bool) {prog : Program} {w : World} {A : Around} (hh : A.handled = none) (it t : Addr) (hne : t ≠ it) (items : Array Value) :
    Draws prog w A it [it, t] items.size (fun i v => items[i]? = some v) (fun i h => IterHp κ h it t i ∧ SeqHp κ h t items) := by
  cases κ with
  | true => exact PySem.Draws.tuple hh it t hne items
  | false => exact PySem.Draws.list hh it t hne items
theorem IterHp.ob {κ : Bool} {h : Heap} {it a : Addr} {i : Nat} (x : IterHp κ h it a i) : ∃ o, h.get? it = some o ∧ ∀ v, o.data ≠ .cell v := by
  cases κ <;> obtain ⟨o, e, _, d⟩ := x <;> exact ⟨o, e, fun v q => by rw [d] at q; cases q⟩
theorem IterHp.keep {κ : Bool} {h h' : Heap} {it a : Addr} {i : Nat} (x : IterHp κ h it a i) (e : ∀ o, h.get? it = some o → h'.get? it = some o) : IterHp κ h' it a i := by
  cases κ with
  | true => exact Heap.IsTupleIter.at x e
  | false => exact Heap.IsListIter.at x e
theorem SeqHp.lt {κ : Bool} {h : Heap} {a : Addr} {items : Array Value} (x : SeqHp κ h a items) : a < h.objs.size := by
  cases κ <;> obtain ⟨o, e, _⟩ := x <;> exact Heap.lt_size e
section
variable {X : Cx} {pins : List (Addr × Obj)} {σ : L2.St} {H : Hp} {s : Shared} {a : Addr} {xs ys : List V}
theorem invK {κ : Bool} (I : L2.Inv X pins σ H s) (h : SqK κ X.K H a xs) : ∃ its : List Value, Vals xs its ∧ SeqHp κ s.heap a its.toArray := by
  cases κ with
  | true => obtain ⟨its, r, p, _⟩ := I.tuple h; exact ⟨its, r, p⟩
  | false => obtain ⟨its, r, p, _⟩ := I.list h; exact ⟨its, r, p.isList⟩
theorem injK {κ : Bool} (I : L2.Inv X pins σ H s) (h : SqK κ X.K H a xs) (h' : SqK κ X.K H a ys) : xs = ys := by
  cases κ with
  | true => exact I.tuple_inj h h'
  | false => exact I.list_inj h h'
end

/-! ### zip -/
def ItzK (κ μ : Bool) (K : PySem.W.Frag) (a b : Addr) : L2.It :=
  ⟨fun i H => ∃ (xs ys : List V) (x y : V), SqK κ K H a xs ∧ SqK μ K H b ys ∧ xs[i]? = some x ∧ ys[i]? = some y,
    fun i H v H' => ∃ T0 x y, v = .ref T0 ∧ H T0 = none ∧ H' = upd H T0 (.tup [x, y]) ∧ (∀ xs, SqK κ K H a xs → xs[i]? = some x) ∧ ∀ ys, SqK μ K H b ys → ys[i]? = some y,
    fun i H => ∃ xs ys : List V, SqK κ K H a xs ∧ SqK μ K H b ys ∧ (xs.length = i ∧ i ≤ ys.length ∨ ys.length = i ∧ i ≤ xs.length)⟩
theorem sepK {z TI TO i1 i2 a b : Addr} (D : ZipApart z TI TO i1 i2 a b) : PySem.ZipSep2 z TI TO i1 i2 [i1, a] [i2, b] where
  TIz := D.TIz
  TOz := D.TOz
  TITO := D.TITO
  TIi1 := D.TIi1
  mem1 := by simp
  zf1 := by simp [Ne.symm D.i1z, Ne.symm D.l1z]
  Tf1 := by simp [D.TOi1, Ne.symm D.l1TO]
  TIi2 := D.TIi2
  mem2 := by simp
  zf2 := by simp [Ne.symm D.i2z, Ne.symm D.l2z]
  Tf2 := by simp [D.TOi2, Ne.symm D.l2TO]
  sep1_2 := by simp [D.i12, Ne.symm D.l2i1]
  sep2_1 := by simp [Ne.symm D.i12, Ne.symm D.l1i2]
theorem five {z TI TO i1 i2 c : Addr} (h : c ∈ [z, TI, TO, i1, i2]) : c = z ∨ c = TI ∨ c = TO ∨ c = i1 ∨ c = i2 := by simpa using h
theorem turn_zipK {κ μ : Bool} {P : Program} {w : World} {K : PySem.W.Frag} {elts : List Expr} {kk : Nat} {tpos : Pos} {a b z TI TO i1 i2 : Addr} (D : ZipApart z TI TO i1 i2 a b) :
    Turn P w K (.Tuple elts kk tpos) (ItzK κ μ K a b) [z, TI, TO, i1, i2] z (fun i h => IsZip h z TI TO .none ∧ IsPair h TI (.ref i1) (.ref i2) ∧ (∃ x y, IsPair h TO x y) ∧ IterHp κ h i1 a i ∧ IterHp μ h i2 b i) where
  mem := by simp
  obj := fun i h st c hc => by
    obtain ⟨g1, g2, ⟨x, y, g3⟩, g4, g5⟩ := st
    rcases five hc with q | q | q | q | q <;> subst q
    · exact ⟨_, g1, fun v q => nomatch q⟩
    · exact ⟨_, g2, fun v q => nomatch q⟩
    · exact ⟨_, g3, fun v q => nomatch q⟩
    · exact g4.ob
    · exact g5.ob
  keep := fun i h h' st k => by
    obtain ⟨g1, g2, ⟨x, y, g3⟩, g4, g5⟩ := st
    exact ⟨k z (by simp) _ g1, k TI (by simp) _ g2, ⟨x, y, k TO (by simp) _ g3⟩, g4.keep fun o q => k i1 (by simp) o q, g5.keep fun o q => k i2 (by simp) o q⟩
  item := by
    intro X hP hw hK hc i pins s σ H E I hf st hg
    subst hP; subst hw; subst hK
    obtain ⟨g1, g2, ⟨x0, y0, g3⟩, g4, g5⟩ := st
    obtain ⟨xs, ys, x, y, qx, qy, ex, ey⟩ := hg
    obtain ⟨its, rv, p⟩ := invK I qx
    obtain ⟨its2, rv2, p2⟩ := invK I qy
    obtain ⟨u, hu, ru⟩ := rv.get ex
    obtain ⟨u2, hu2, ru2⟩ := rv2.get ey
    have zl : z < s.heap.objs.size := Heap.lt_size g1
    have hh : X.A.in1.handled = none := I.ok.hd hc
    refine PySem.wpAny_pyNext_zipD2_item (sepK D) (drawsK κ hh i1 a D.l1i1 its.toArray) (drawsK μ hh i2 b D.l2i2 its2.toArray) g1 g2 g3 ⟨g4, p⟩ ⟨g5, p2⟩ (by simpa using (List.getElem?_eq_some_iff.mp hu).1) (by simpa using (List.getElem?_eq_some_iff.mp hu2).1) fun w1 w2 h' tk e1 e2 k1 k2 k3 k4 k5 k6 k7 => ?_
    have ew1 : w1 = u := by
      have e1 : its.toArray[i]? = some w1 := e1
      rw [List.getElem?_toArray, hu] at e1; exact (Option.some.inj e1).symm
    have ew2 : w2 = u2 := by
      have e2 : its2.toArray[i]? = some w2 := e2
      rw [List.getElem?_toArray, hu2] at e2; exact (Option.some.inj e2).symm
    subst ew1; subst ew2
    refine ⟨_, rfl, wpAny_letOwnedTupleGo_zip (s := { s with heap := h', toks := tk }) k1 fun h'' z'' sb => ?_⟩
    have tp : h''.get? s.heap.objs.size = some { cls := .type "tuple", data := .seq #[w1, w2] } := (sb.2 _ (Nat.ne_of_gt zl)).trans k5
    have nw : ObjOk X.prog X.w (upd H s.heap.objs.size (.tup [x, y])) h'' s.heap.objs.size (.tup [x, y]) :=
      ⟨by show 2 ≤ sizeLine; decide, [w1, w2], .cons ru (.cons ru2 .nil), ⟨_, tp, rfl, _, rfl⟩⟩
    have I1 : L2.Inv X pins σ (upd H s.heap.objs.size (.tup [x, y])) { s with heap := h'', toks := tk } :=
      I.turnedNew (t' := tk) (ch := [z, TI, TO, i1, i2]) (fun c o hb q => (sb.2 c (fun q' => hb (by simp [q']))).trans (k7 c o (fun q' => hb (by simp [q'])) (fun q' => hb (by simp [q'])) (fun q' => hb (by simp [q'])) (fun q' => hb (by simp [q'])) q)) hf (Nat.le_refl _) nw
    have TIs : h'.get? TI = s.heap.get? TI := by rw [k7 TI _ D.TIz D.TITO D.TIi1 D.TIi2 g2, g2]
    refine ⟨.ref s.heap.objs.size, _, I1, rfl, ⟨_, x, y, rfl, I.hok.fresh (Nat.le_refl _), rfl, fun l hl => by rw [injK I hl qx]; exact ex, fun l hl => by rw [injK I hl qy]; exact ey⟩, ⟨z'', ?_, ⟨w1, w2, ?_⟩, ?_, ?_⟩, fun c hcm => ?_⟩
    · exact (sb.2 _ D.TIz).trans (TIs.trans g2)
    · exact (sb.2 _ D.TOz).trans k2
    · exact k3.1.keep fun o q => (sb.2 _ D.i1z).trans q
    · exact k4.1.keep fun o q => (sb.2 _ D.i2z).trans q
    · have lt : c < s.heap.objs.size := by
        rcases five hcm with q | q | q | q | q <;> subst q
        · exact zl
        · exact Heap.lt_size g2
        · exact Heap.lt_size g3
        · obtain ⟨_, e, _⟩ := g4.ob; exact Heap.lt_size e
        · obtain ⟨_, e, _⟩ := g5.ob; exact Heap.lt_size e
      rw [upd_ne (Nat.ne_of_lt lt)]
      exact (hf c hcm).1
  done := by
    intro X hP hw hK hc i pins s σ H E I hf st hg
    subst hP; subst hw; subst hK
    obtain ⟨g1, g2, ⟨x0, y0, g3⟩, g4, g5⟩ := st
    obtain ⟨xs, ys, qx, qy, hend⟩ := hg
    obtain ⟨its, rv, p⟩ := invK I qx
    obtain ⟨its2, rv2, p2⟩ := invK I qy
    have l1 := rv.length
    have l2 := rv2.length
    have z1 : its.toArray.size = its.length := by simp
    have z2 : its2.toArray.size = its2.length := by simp
    have hh : X.A.in1.handled = none := I.ok.hd hc
    refine PySem.wpAny_pyNext_zipD2_end (sepK D) (drawsK κ hh i1 a D.l1i1 its.toArray) (drawsK μ hh i2 b D.l2i2 its2.toArray) g1 g2 g3 ⟨g4, p⟩ ⟨g5, p2⟩ (by omega) (by omega) (by omega) fun h' tk hk => ⟨rfl, I.turnedL (t' := tk) (ch := [z, TI, TO, i1, i2]) (fun c o hb q =>
      hk c o (fun q' => hb (by simp [q'])) (fun q' => hb (by simp [q'])) (fun q' => hb (by simp [q'])) (fun q' => hb (by simp [q'])) q) hf⟩
  self := fun A i s Q E st h => wpAny_pyIter_zip st.1 h

/-! the making of a zip -/
abbrev zk1 (h : Heap) (κ : Bool) (l : Addr) : Heap := h.push { cls := .type (itName κ), data := .fields #[.ref l, .int 0 0] }
abbrev zk3 (h : Heap) (p q : Addr) : Heap := h.push { cls := .type "tuple", data := .seq #[.ref p, .ref q] }
abbrev zk4 (h : Heap) : Heap := h.push { cls := .type "tuple", data := .seq #[.none, .none] }
abbrev zk5 (h : Heap) (p q : Addr) : Heap := h.push { cls := .type "zip", data := .fields #[.none, .bool false, .bool false, .ref p, .ref q] }
abbrev zkA (h : Heap) (κ μ : Bool) (l1 l2 : Addr) : Heap := zk4 (zk3 (zk1 (zk1 h κ l1) μ l2) h.objs.size (zk1 h κ l1).objs.size)
abbrev zkB (h : Heap) (κ μ : Bool) (l1 l2 : Addr) : Heap := zk5 (zkA h κ μ l1 l2) (zk1 (zk1 h κ l1) μ l2).objs.size (zk3 (zk1 (zk1 h κ l1) μ l2) h.objs.size (zk1 h κ l1).objs.size).objs.size
theorem meets_zipK (κ μ : Bool) (l1 l2 : Addr) (xs ys : Array Value) :
    Meets (Builtin.«zip.__new__» ⟨[.type "zip", .ref l1, .ref l2], []⟩) (fun _ R s => SeqHp κ s.heap l1 xs ∧ SeqHp μ s.heap l2 ys ∧ R (.ok (.ret (.ref (zkA s.heap κ μ l1 l2).objs.size))) { s with heap := zkB s.heap κ μ l1 l2 }) :=
  .of_wp fun prog w A R s h => by
    obtain ⟨hp, g, d, tk, os⟩ := s; obtain ⟨hl1, hl2, h⟩ := h
    have hsub := sub_zip
    cases κ <;> cases μ
    · have hL1 : Heap.IsList (Shared.heap ⟨hp, g, d, tk, os⟩) l1 xs := hl1
      have hL2 : Heap.IsList (Shared.heap ⟨hp.push { cls := .type "list_iterator", data := .fields #[.ref l1, .int 0 0] }, g, d, tk, os⟩) l2 ys := Heap.IsList.push hl2 _
      wp_walk using wpAny_pyIter_list hL1, wpAny_pyIter_list hL2
      exact ⟨_, rfl, h⟩
    · have hL1 : Heap.IsList (Shared.heap ⟨hp, g, d, tk, os⟩) l1 xs := hl1
      have hL2 : Heap.IsTuple (Shared.heap ⟨hp.push { cls := .type "list_iterator", data := .fields #[.ref l1, .int 0 0] }, g, d, tk, os⟩) l2 ys := Heap.IsTuple.push hl2 _
      wp_walk using wpAny_pyIter_list hL1, wpAny_pyIter_tuple hL2
      exact ⟨_, rfl, h⟩
    · have hL1 : Heap.IsTuple (Shared.heap ⟨hp, g, d, tk, os⟩) l1 xs := hl1
      have hL2 : Heap.IsList (Shared.heap ⟨hp.push { cls := .type "tuple_iterator", data := .fields #[.ref l1, .int 0 0] }, g, d, tk, os⟩) l2 ys := Heap.IsList.push hl2 _
      wp_walk using wpAny_pyIter_tuple hL1, wpAny_pyIter_list hL2
      exact ⟨_, rfl, h⟩
    · have hL1 : Heap.IsTuple (Shared.heap ⟨hp, g, d, tk, os⟩) l1 xs := hl1
      have hL2 : Heap.IsTuple (Shared.heap ⟨hp.push { cls := .type "tuple_iterator", data := .fields #[.ref l1, .int 0 0] }, g, d, tk, os⟩) l2 ys := Heap.IsTuple.push hl2 _
      wp_walk using wpAny_pyIter_tuple hL1, wpAny_pyIter_tuple hL2
      exact ⟨_, rfl, h⟩
theorem iter_new {κ : Bool} {h : Heap} {it l : Addr} (e : h.get? it = some { cls := .type (itName κ), data := .fields #[.ref l, .int 0 0] }) : IterHp κ h it l 0 := by
  cases κ
  · exact ⟨_, e, rfl, rfl⟩
  · exact ⟨_, e, rfl, rfl⟩
section
variable {prog : Program} {w : World} {A : Around} {E : Value → Shared → Prop} {s : Shared}
theorem call_zipK {κ μ : Bool} {l1 l2 : Addr} {xs ys : Array Value} {Q : Value → Shared → Prop} (hl1 : SeqHp κ s.heap l1 xs) (hl2 : SeqHp μ s.heap l2 ys)
    (h : ∀ h', IsZip h' (s.heap.objs.size + 4) (s.heap.objs.size + 2) (s.heap.objs.size + 3) .none → IsPair h' (s.heap.objs.size + 2) (.ref s.heap.objs.size) (.ref (s.heap.objs.size + 1)) →
      IsPair h' (s.heap.objs.size + 3) .none .none → IterHp κ h' s.heap.objs.size l1 0 → IterHp μ h' (s.heap.objs.size + 1) l2 0 → (∀ c o, s.heap.get? c = some o → h'.get? c = some o) → Q (.ref (s.heap.objs.size + 4)) { s with heap := h' }) :
    wpAny (model prog w) A (call (.type "zip") [.ref l1, .ref l2]) Q E s := by
  refine callType_new F.called_zip (by decide) (F.typeCall_zip_2 _ _) (F.newCall_zip_2 _ _) (fun obj => F.args_object_init_3 obj _ _) F.entry_zip_new (meets_zipK κ μ l1 l2 xs ys) ⟨hl1, hl2, ?_⟩
  have z1 : (zk1 s.heap κ l1).objs.size = s.heap.objs.size + 1 := Heap.size_push ..
  have z2 : (zk1 (zk1 s.heap κ l1) μ l2).objs.size = s.heap.objs.size + 2 := by rw [Heap.size_push, z1]
  have z3 : (zk3 (zk1 (zk1 s.heap κ l1) μ l2) s.heap.objs.size (zk1 s.heap κ l1).objs.size).objs.size = s.heap.objs.size + 3 := by rw [Heap.size_push, z2]
  have z4 : (zkA s.heap κ μ l1 l2).objs.size = s.heap.objs.size + 4 := by rw [Heap.size_push, z3]
  have g5 : (zkB s.heap κ μ l1 l2).get? (zkA s.heap κ μ l1 l2).objs.size = some _ := Heap.get?_push_size _ rfl
  have g4 : (zkB s.heap κ μ l1 l2).get? (zk3 (zk1 (zk1 s.heap κ l1) μ l2) s.heap.objs.size (zk1 s.heap κ l1).objs.size).objs.size = some _ := Heap.get?_push_of_some _ (Heap.get?_push_size _ rfl)
  have g3 : (zkB s.heap κ μ l1 l2).get? (zk1 (zk1 s.heap κ l1) μ l2).objs.size = some _ := Heap.get?_push_of_some _ (Heap.get?_push_of_some _ (Heap.get?_push_size _ rfl))
  have g2 : (zkB s.heap κ μ l1 l2).get? (zk1 s.heap κ l1).objs.size = some _ := Heap.get?_push_of_some _ (Heap.get?_push_of_some _ (Heap.get?_push_of_some _ (Heap.get?_push_size _ rfl)))
  have g1 : (zkB s.heap κ μ l1 l2).get? s.heap.objs.size = some _ := Heap.get?_push_of_some _ (Heap.get?_push_of_some _ (Heap.get?_push_of_some _ (Heap.get?_push_of_some _ (Heap.get?_push_size _ rfl))))
  show _ ∧ _
  rw [z2, z3, z4] at g5
  rw [z1, z2] at g3
  rw [z3] at g4
  rw [z1] at g2
  rw [z4]
  exact ⟨⟨_, g5, rfl⟩, h _ g5 g3 g4 (iter_new g1) (iter_new g2) fun c o x => Heap.get?_push_of_some _ (Heap.get?_push_of_some _ (Heap.get?_push_of_some _ (Heap.get?_push_of_some _ (Heap.get?_push_of_some _ x))))⟩
end
def iZipK (K : PySem.W.Frag) (ta : TA) : TI := fun σ H R => ta σ H fun vs H1 => ∃ κ μ a b xs ys, vs = [.ref a, .ref b] ∧ SqK κ K H1 a xs ∧ SqK μ K H1 b ys ∧ R (ItzK κ μ K a b) H1
theorem pi_zipK {X : Cx} {e e2 : Expr} {ta : TA} {p pos tpos : Pos} {elts : List Expr} {kk : Nat} (hg : Gl X "zip") (hm : X.mg "zip" = none) (ha : PA X [e, e2] ta)
    (h1 : starEach [e, e2] X.env = (false, eval e X.env) :: starEach [e2] X.env) (h2 : (backTo pos (starEach [e2] X.env)).any (·.1) = false) : PI X (.Tuple elts kk tpos) (.Call (.Name "zip" p) [e, e2] [] pos) (iZipK X.K ta) := by
  refine ⟨fun pins s σ H R I h => ?_⟩
  refine Call_ (ld_blt I hg hm PyProof.Rows.boot_zip (PyProof.Rows.callWith_type1 (thn (ha.run pos pins s σ H _ I h) fun us s1 ⟨vs, H1, I1, r1, q1⟩ => ?_) h1 h2))
  obtain ⟨κ, μ, a, b, xs, ys, rfl, qx, qy, q⟩ := q1
  obtain ⟨u1, u2, rfl, ra, rb⟩ := vals2 r1
  cases ra; cases rb
  obtain ⟨its, rv, p1⟩ := invK I1 qx
  obtain ⟨its2, rv2, p2⟩ := invK I1 qy
  have fresh5 : ∀ c, c ∈ [s1.heap.objs.size + 4, s1.heap.objs.size + 2, s1.heap.objs.size + 3, s1.heap.objs.size, s1.heap.objs.size + 1] → FpOk X pins H1 c := fun c hcm => by
    have hle : s1.heap.objs.size ≤ c := by rcases five hcm with q | q | q | q | q <;> rw [q] <;> first | exact Nat.le_refl _ | exact Nat.le_add_right _ _
    exact I1.fpOk hle (I1.hok.fresh hle)
  refine call_zipK p1 p2 fun h' k1 k2 k3 k4 k5 k6 => wpAny_pyIter_zip k1 ?_
  have I2 : L2.Inv X pins σ H1 { s1 with heap := h' } := I1.kept (t' := s1.toks) k6
  exact ⟨s1.heap.objs.size + 4, [s1.heap.objs.size + 4, s1.heap.objs.size + 2, s1.heap.objs.size + 3, s1.heap.objs.size, s1.heap.objs.size + 1], _, _, H1, rfl, I2, turn_zipK (PySem.W.ktu_apart s1.heap.objs.size a b p1.lt p2.lt), ⟨k1, k2, ⟨_, _, k3⟩, k4, k5⟩, fresh5, q⟩
end PF
namespace PF
open PySem L2 PySem.Spec PyProof.Rows
/-! ### enumerate of a tuple -/
def IteT (K : PySem.W.Frag) (a : Addr) : L2.It :=
  ⟨fun i H => ∃ (xs : List V) (x : V), SqT K H a xs ∧ xs[i]? = some x, fun i H v H' => ∃ T0 x, v = .ref T0 ∧ H T0 = none ∧ H' = upd H T0 (.tup [.int (i : Nat), x]) ∧ ∀ xs, SqT K H a xs → xs[i]? = some x, fun i H => ∃ xs : List V, SqT K H a xs ∧ xs.length = i⟩
theorem turn_enumT {P : Program} {w : World} {K : PySem.W.Frag} {elts : List Expr} {kk : Nat} {tpos : Pos} {a e it : Addr} (n1 : a ≠ it) (n2 : e ≠ it) (n3 : e ≠ a) :
    Turn P w K (.Tuple elts kk tpos) (IteT K a) [e, it] e (fun i h => (∃ old, IsEnum h e it ((i : Nat) : Int) old) ∧ h.IsTupleIter it a i) where
  mem := by simp
  obj := fun i h st b hb => by
    obtain ⟨⟨old, he⟩, ⟨o, ho, hc, hd⟩⟩ := st
    have e' : b = e ∨ b = it := by simpa using hb
    rcases e' with z | z <;> subst z
    · exact ⟨_, he, fun v q => nomatch q⟩
    · exact ⟨o, ho, fun v q => by rw [hd] at q; cases q⟩
  keep := fun i h h' st k => ⟨let ⟨old, he⟩ := st.1; ⟨old, k e (by simp) _ he⟩, st.2.at fun o q => k it (by simp) o q⟩
  item := by
    intro X hP hw hK hc i pins s σ H E I hf st hg
    subst hP; subst hw; subst hK
    obtain ⟨⟨old, he⟩, hit⟩ := st
    obtain ⟨xs, x, hq, hx⟩ := hg
    obtain ⟨its, rv, p, hz⟩ := I.tuple hq
    obtain ⟨u, hu, ru⟩ := rv.get hx
    have hel : e < s.heap.objs.size := Heap.lt_size he
    have hil : it < s.heap.objs.size := by obtain ⟨_, q, _⟩ := hit; exact Heap.lt_size q
    have hh : X.A.in1.handled = none := I.ok.hd hc
    refine PySem.wpAny_pyNext_enum_itemD (PySem.Draws.tuple hh it a n1 its.toArray) he ⟨hit, p⟩ (by simpa using (List.getElem?_eq_some_iff.mp hu).1) n2 (by simp [n2, n3]) fun w1 h' tk e1 ho st' hT hsz hk => ?_
    have ew : w1 = u := by
      have e1 : its.toArray[i]? = some w1 := e1
      rw [List.getElem?_toArray, hu] at e1; exact (Option.some.inj e1).symm
    subst ew
    refine ⟨_, rfl, wpAny_letOwnedTupleGo_enum (s := { s with heap := h', toks := tk + 1 }) ho fun h'' he' sb => ?_⟩
    have tp : h''.get? s.heap.objs.size = some { cls := .type "tuple", data := .seq #[.int i tk, w1] } := (sb.2 _ (Nat.ne_of_gt hel)).trans hT
    have nw : ObjOk X.prog X.w (upd H s.heap.objs.size (.tup [.int (i : Nat), x])) h'' s.heap.objs.size (.tup [.int (i : Nat), x]) :=
      ⟨by show 2 ≤ sizeLine; decide, [.int i tk, w1], .cons ⟨_, rfl⟩ (.cons ru .nil), ⟨_, tp, rfl, _, rfl⟩⟩
    have I1 : L2.Inv X pins σ (upd H s.heap.objs.size (.tup [.int (i : Nat), x])) { s with heap := h'', toks := tk + 1 } :=
      I.turnedNew (ch := [e, it]) (fun b ob hb q => (sb.2 b (fun z => hb (by simp [z]))).trans (hk b ob (fun z => hb (by simp [z])) (fun z => hb (by simp [z])) q)) hf (Nat.le_refl _) nw
    refine ⟨.ref s.heap.objs.size, _, I1, rfl, ⟨_, x, rfl, I.hok.fresh (Nat.le_refl _), rfl, fun ys hy => by rw [I.tuple_inj hy hq]; exact hx⟩, ⟨⟨w1, ?_⟩, st'.1.at fun o q => (sb.2 it (Ne.symm n2)).trans q⟩, fun b hb => ?_⟩
    · have e1 : ((i + 1 : Nat) : Int) = (i : Int) + 1 := by omega
      rw [e1]; exact he'
    · have hb' : b < s.heap.objs.size := by
        have e' : b = e ∨ b = it := by simpa using hb
        rcases e' with z | z <;> subst z
        · exact hel
        · exact hil
      rw [upd_ne (Nat.ne_of_lt hb')]
      exact (hf b hb).1
  done := by
    intro X hP hw hK hc i pins s σ H E I hf st hg
    subst hP; subst hw; subst hK
    obtain ⟨⟨old, he⟩, hit⟩ := st
    obtain ⟨xs, hq, hx⟩ := hg
    obtain ⟨its, rv, p, hz⟩ := I.tuple hq
    obtain ⟨f0, f1, f2, f3, f4, f5⟩ := hf it (by simp)
    have hl := rv.length
    have hh : X.A.in1.handled = none := I.ok.hd hc
    have hi : i = its.toArray.size := by simp; omega
    refine PySem.wpAny_pyNext_enum_endD (PySem.Draws.tuple hh it a n1 its.toArray) he ⟨hi ▸ hit, p⟩ fun h' eb => ⟨rfl, I.turned (t' := s.toks) (fun b o hb q => eb b o hb q) f0 f1 f3 f4 f5⟩
  self := fun A i s Q E st h => let ⟨⟨_, he⟩, _⟩ := st; wpAny_pyIter_enum he h
theorem meets_enumT (l : Addr) (xs : Array Value) :
    Meets (Builtin.«enumerate.__new__» ⟨[.type "enumerate", .ref l], []⟩) (fun _ R s => s.heap.IsTuple l xs ∧
      R (.ok (.ret (.ref (zk1 s.heap true l).objs.size))) { s with heap := (zk1 s.heap true l).push { cls := .type "enumerate", data := .fields #[.none, .bool false, .ref s.heap.objs.size, rawInt 0, .none, .none] } }) :=
  .of_wp fun prog w A R s h => by
    obtain ⟨hp, g, d, tk, os⟩ := s; obtain ⟨hl, h⟩ := h
    have hsub := sub_enumerate
    have hL1 : Heap.IsTuple (Shared.heap ⟨hp, g, d, tk, os⟩) l xs := hl
    wp_walk
    refine wpAny_stack_any fun st => wpAny_pure ?_
    split
    · rename_i c _ _ _ _ _
      cases (c == Value.type "enumerate")
      · wp_walk using wpAny_pyIter_tuple hL1
        exact ⟨_, rfl, h⟩
      · wp_walk using wpAny_pyIter_tuple hL1
        exact ⟨_, rfl, h⟩
    · wp_walk using wpAny_pyIter_tuple hL1
      exact ⟨_, rfl, h⟩
theorem call_enumT {prog : Program} {w : World} {A : Around} {E : Value → Shared → Prop} {s : Shared} {l : Addr} {xs : Array Value} {Q : Value → Shared → Prop} (hL : s.heap.IsTuple l xs)
    (h : ∀ h', IsEnum h' (s.heap.objs.size + 1) s.heap.objs.size 0 .none → h'.IsTupleIter s.heap.objs.size l 0 → (∀ b o, s.heap.get? b = some o → h'.get? b = some o) → Q (.ref (s.heap.objs.size + 1)) { s with heap := h' }) :
    wpAny (model prog w) A (call (.type "enumerate") [.ref l]) Q E s := by
  refine callType_new F.called_enumerate (by decide) (F.typeCall_enumerate_1 _) (F.newCall_enumerate_1 _) (fun obj => F.args_object_init_2 obj _) F.entry_enumerate_new (meets_enumT l xs) ⟨hL, ?_⟩
  have hz : (zk1 s.heap true l).objs.size = s.heap.objs.size + 1 := Heap.size_push ..
  have g2 := Heap.get?_push_size (zk1 s.heap true l) (o := { cls := .type "enumerate", data := .fields #[.none, .bool false, .ref s.heap.objs.size, rawInt 0, .none, .none] }) rfl
  have g1 : ((zk1 s.heap true l).push { cls := .type "enumerate", data := .fields #[.none, .bool false, .ref s.heap.objs.size, rawInt 0, .none, .none] }).get? s.heap.objs.size = some _ := Heap.get?_push_of_some _ (Heap.get?_push_size _ rfl)
  show _ ∧ _
  rw [hz] at g2 ⊢
  exact ⟨⟨_, g2, rfl⟩, h _ g2 ⟨_, g1, rfl, rfl⟩ fun b o x => Heap.get?_push_of_some _ (Heap.get?_push_of_some _ x)⟩
def iEnumT (K : PySem.W.Frag) (ta : TA) : TI := fun σ H R => ta σ H fun vs H1 => ∃ a xs, vs = [.ref a] ∧ SqT K H1 a xs ∧ R (IteT K a) H1
theorem pi_enumT {X : Cx} {e : Expr} {ta : TA} {p pos tpos : Pos} {elts : List Expr} {kk : Nat} (hg : Gl X "enumerate") (hm : X.mg "enumerate" = none) (ha : PA X [e] ta) (hs : starEach [e] X.env = [(false, eval e X.env)]) :
    PI X (.Tuple elts kk tpos) (.Call (.Name "enumerate" p) [e] [] pos) (iEnumT X.K ta) := by
  refine ⟨fun pins s σ H R I h => ?_⟩
  refine Call_ (ld_blt I hg hm PyProof.Rows.boot_enumerate (PyProof.Rows.callWith_type1 (thn (ha.run pos pins s σ H _ I h) fun us s1 ⟨vs, H1, I1, r1, q1⟩ => ?_) hs rfl))
  obtain ⟨a, xs, rfl, hq, q⟩ := q1
  obtain ⟨u, rfl, ru⟩ := vals1 r1
  cases ru
  obtain ⟨its, rv, p', hz⟩ := I1.tuple hq
  have la : a < s1.heap.objs.size := p'.lt
  refine call_enumT p' fun h' he hit hk => wpAny_pyIter_enum he ?_
  have I2 : L2.Inv X pins σ H1 { s1 with heap := h' } := I1.kept (t' := s1.toks) hk
  refine ⟨s1.heap.objs.size + 1, [s1.heap.objs.size + 1, s1.heap.objs.size], _, _, H1, rfl, I2, turn_enumT (a := a) (e := s1.heap.objs.size + 1) (it := s1.heap.objs.size) (Nat.ne_of_lt la) (Nat.succ_ne_self _) (Nat.ne_of_gt (Nat.lt_succ_of_lt la)), ⟨⟨.none, he⟩, hit⟩, fun b hb => ?_, q⟩
  have e' : b = s1.heap.objs.size + 1 ∨ b = s1.heap.objs.size := by simpa using hb
  have hle : s1.heap.objs.size ≤ b := by
    rcases e' with z | z <;> rw [z]
    · exact Nat.le_add_right _ _
    · exact Nat.le_refl _
  exact I1.fpOk hle (I1.hok.fresh hle)
end PF

end

section
set_option Elab.async false
set_option linter.all false
set_option maxRecDepth 100000
set_option maxHeartbeats 2000000
set_option autoImplicit false
/-! PfD5: what is walked, targets, comprehensions. -/
namespace PF
open PySem L2 PySem.Spec PyProof.Rows
section
variable {X : Cx} {A : Ad} {cl : Call} {G : Tab} {ar : Nat → Nat} {C : Cmp} {W : WX}
section
variable {K : PySem.W.Frag} {ρ : List Addr} {H : Hp} {st : Store}
theorem RT.unC {v : V} {t : T} (r : RT K A ρ H v t) : RT K A ρ H v (unC t) := by
  cases r <;> first | exact RT.non | exact RT.bl _ | exact RT.int _ | exact RT.str _ (by assumption) | exact RT.tup (by assumption) (by assumption) | exact RT.rol (by assumption) (by assumption) | exact RT.rod (by assumption) (by assumption) | exact RT.ref (by assumption) | exact RT.fn (by assumption) | skip
  rename_i k q
  obtain ⟨o, k, _⟩ := k.ex
  exact .tup (.inl (.inr ⟨o, k⟩)) q
theorem seqOf_unC {st : Store} {t : T} : seqOf st (PF.unC t) = seqOf st t := by cases t <;> rfl
theorem unC_ne {t : T} (l : List T) : PF.unC t ≠ .ctp l := by cases t <;> exact fun h => nomatch h
theorem lst_of_seq {st : Store} {t : T} {xs : List T} (h : seqOf st t = some xs) (hn : ∀ l, t ≠ .tup l) (nC : ∀ l, t ≠ .ctp l) : lstOf st t = some xs := by
  cases t <;> first | exact h | (exact absurd rfl (hn _)) | (exact absurd rfl (nC _))
theorem rj_lst {a : Addr} {t : T} (r : RT K A ρ H (.ref a) t) (hn : ∀ l, t ≠ .tup l) (nC : ∀ l, t ≠ .ctp l) : RJ K A ρ H (Itl K a) (.sq t) := by
  intro ρ' H' st' s R
  have r' := r.kp s
  refine ⟨fun i h => ?_, fun i u h => ?_⟩
  · simp only [Itv.len] at h
    obtain ⟨xs, e1, rfl⟩ := Option.map_eq_some_iff.mp h
    obtain ⟨a', vs, ea, g, q⟩ := R.lst r' (lst_of_seq e1 hn nC)
    cases ea
    exact ⟨vs, g, by rw [q.length]; exact Nat.le_refl _⟩
  · simp only [Itv.get] at h
    obtain ⟨xs, e1, e2⟩ := Option.bind_eq_some_iff.mp h
    obtain ⟨a', vs, ea, g, q⟩ := R.lst r' (lst_of_seq e1 hn nC)
    cases ea
    obtain ⟨v, e3, r⟩ := q.get e2
    refine ⟨⟨vs, v, g, e3⟩, fun x H'' y => ?_⟩
    obtain ⟨rfl, y⟩ := y
    have : x = v := Option.some.inj ((y vs g).symm.trans e3)
    subst this
    exact ⟨.refl, R, r⟩
theorem rj_tup {a : Addr} {xs : List T} (r : RT K A ρ H (.ref a) (.tup xs)) : RJ K A ρ H (Itt K a) (.sq (.tup xs)) := by
  intro ρ' H' st' s R
  have r' := r.kp s
  cases r' with | tup k' q' =>
  refine ⟨fun i h => ?_, fun i t h => ?_⟩
  · simp only [Itv.len, seqOf, Option.map_some, Option.some.injEq] at h
    subst h
    exact ⟨_, k', by rw [q'.length]; exact Nat.le_refl _⟩
  · simp only [Itv.get, seqOf, Option.bind_some] at h
    obtain ⟨v, e3, r⟩ := q'.get h
    refine ⟨⟨_, v, k', e3⟩, fun x H'' y => ?_⟩
    obtain ⟨rfl, y⟩ := y
    have : x = v := Option.some.inj ((y _ k').symm.trans e3)
    subst this
    exact ⟨.refl, R, r⟩
theorem rj_rng {lo : Int} {n : Nat} : RJ K A ρ H (Itr lo n) (.rng lo n) := by
  intro ρ' H' st' s R
  refine ⟨fun i h => ?_, fun i t h => ?_⟩
  · simp only [Itv.len, Option.some.injEq] at h
    subst h
    exact Nat.le_refl _
  · simp only [Itv.get] at h
    split at h
    · rename_i c
      cases h
      refine ⟨c, fun x H'' y => ?_⟩
      obtain ⟨rfl, rfl⟩ := y
      exact ⟨.refl, R, .int _⟩
    · cases h
theorem rj_rngC {lo c : Int} {n : Nat} : RJ K A ρ H (Itc lo c n) (.rngC lo c n) := by
  intro ρ' H' st' s R
  refine ⟨fun i h => ?_, fun i t h => ?_⟩
  · simp only [Itv.len, Option.some.injEq] at h
    subst h
    exact Nat.le_refl _
  · simp only [Itv.get] at h
    split at h
    · rename_i c
      cases h
      refine ⟨c, fun x H'' y => ?_⟩
      obtain ⟨rfl, rfl⟩ := y
      exact ⟨.refl, R, .int _⟩
    · cases h
theorem pair_new {ρ' : List Addr} {H' : Hp} {st' : Store} {T0 : Addr} {x y : V} {t u : T} (R : Rel K A ρ' H' st') (h : H' T0 = none) (r1 : RT K A ρ' H' x t) (r2 : RT K A ρ' H' y u) :
    Step K ρ' H' ρ' (upd H' T0 (.tup [x, y])) ∧ Rel K A ρ' (upd H' T0 (.tup [x, y])) st' ∧ RT K A ρ' (upd H' T0 (.tup [x, y])) (.ref T0) (.tup [t, u]) :=
  ⟨Step.new h, R.new h, .tup (SqT.of upd_same) (.cons (r1.step (Step.new h)) (.cons (r2.step (Step.new h)) .nil))⟩
theorem pairT_some {a b : Option T} {p : T} (h : pairT a b = some p) : ∃ t u, a = some t ∧ b = some u ∧ p = .tup [t, u] := by
  cases a with
  | none => cases h
  | some t => cases b with
    | none => cases h
    | some u => cases h; exact ⟨t, u, rfl, rfl, rfl⟩
theorem rj_enum {a : Addr} {t : T} (r : RT K A ρ H (.ref a) t) (hn : ∀ l, t ≠ .tup l) (nC : ∀ l, t ≠ .ctp l) : RJ K A ρ H (Ite K a) (.enum t) := by
  intro ρ' H' st' s R
  have r' := r.kp s
  refine ⟨fun i h => ?_, fun i t h => ?_⟩
  · simp only [Itv.len] at h
    obtain ⟨xs, e1, rfl⟩ := Option.map_eq_some_iff.mp h
    obtain ⟨a', vs, ea, g, q⟩ := R.lst r' (lst_of_seq e1 hn nC)
    cases ea
    exact ⟨vs, g, by rw [q.length]; exact Nat.le_refl _⟩
  · simp only [Itv.get] at h
    obtain ⟨t1, t2, h1, h2, rfl⟩ := pairT_some h
    obtain ⟨xs, e1, e2⟩ := Option.bind_eq_some_iff.mp h2
    obtain ⟨a', vs, ea, g, q⟩ := R.lst r' (lst_of_seq e1 hn nC)
    cases ea
    obtain ⟨v, e3, r⟩ := q.get e2
    cases h1
    refine ⟨⟨vs, v, g, e3⟩, fun x H'' y => ?_⟩
    obtain ⟨T0, x0, rfl, hn, rfl, y⟩ := y
    have : x0 = v := Option.some.inj ((y vs g).symm.trans e3)
    subst this
    exact pair_new R hn (.int _) r
theorem rj_enumT {a : Addr} {xs : List T} (r : RT K A ρ H (.ref a) (.tup xs)) : RJ K A ρ H (IteT K a) (.enum (.tup xs)) := by
  intro ρ' H' st' s R
  have r' := r.kp s
  cases r' with | tup k' q' =>
  refine ⟨fun i h => ?_, fun i t h => ?_⟩
  · simp only [Itv.len, seqOf, Option.map_some, Option.some.injEq] at h
    subst h
    exact ⟨_, k', q'.length⟩
  · simp only [Itv.get, seqOf, Option.bind_some] at h
    obtain ⟨t1, t2, h1, h2, rfl⟩ := pairT_some h
    obtain ⟨v, e3, r⟩ := q'.get h2
    cases h1
    refine ⟨⟨_, v, k', e3⟩, fun x H'' y => ?_⟩
    obtain ⟨T0, x0, rfl, hn, rfl, y⟩ := y
    have : x0 = v := Option.some.inj ((y _ k').symm.trans e3)
    subst this
    exact pair_new R hn (.int _) r
/-- which kind a sequence is -/
def kindT : T → Bool
  | .tup _ => true
  | _ => false
theorem Rel.seqK {st : Store} (R : Rel K A ρ H st) {a : Addr} {t : T} {xs : List T} (r : RT K A ρ H (.ref a) t) (h : seqOf st t = some xs) (nC : ∀ l, t ≠ .ctp l) : ∃ vs, SqK (kindT t) K H a vs ∧ RTs K A ρ H vs xs := by
  by_cases hn : ∀ l, t ≠ .tup l
  · obtain ⟨a', vs, ea, g, q⟩ := R.lst r (lst_of_seq h hn nC)
    cases ea
    refine ⟨vs, ?_, q⟩
    cases t <;> first | exact g | exact absurd rfl (hn _) | exact absurd rfl (nC _)
  · have : ∃ l, t = .tup l := by
      cases t <;> first | exact ⟨_, rfl⟩ | (exact absurd (fun l q => by cases q) hn)
    obtain ⟨l, rfl⟩ := this
    cases h
    cases r with | tup k q => exact ⟨_, k, q⟩
theorem rj_zip {a b : Addr} {t u : T} (r : RT K A ρ H (.ref a) t) (r2 : RT K A ρ H (.ref b) u) (nC : ∀ l, t ≠ .ctp l) (nC2 : ∀ l, u ≠ .ctp l) : RJ K A ρ H (ItzK (kindT t) (kindT u) K a b) (.zip t u) := by
  intro ρ' H' st' s R
  have r' := r.kp s
  have r2' := r2.kp s
  refine ⟨fun i h => ?_, fun i t h => ?_⟩
  · simp only [Itv.len] at h
    split at h
    · rename_i xs ys e1 e2
      obtain ⟨vs, g, q⟩ := R.seqK r' e1 nC
      obtain ⟨ws, g2, q2⟩ := R.seqK r2' e2 nC2
      cases h
      refine ⟨vs, ws, g, g2, ?_⟩
      rw [q.length, q2.length]; omega
    · cases h
  · simp only [Itv.get] at h
    obtain ⟨t1, t2, h1, h2, rfl⟩ := pairT_some h
    obtain ⟨xs, e1, e2⟩ := Option.bind_eq_some_iff.mp h1
    obtain ⟨ys, e3, e4⟩ := Option.bind_eq_some_iff.mp h2
    obtain ⟨vs, g, q⟩ := R.seqK r' e1 nC
    obtain ⟨v, e5, r⟩ := q.get e2
    obtain ⟨ws, g2, q2⟩ := R.seqK r2' e3 nC2
    obtain ⟨w, e6, r2⟩ := q2.get e4
    refine ⟨⟨vs, ws, v, w, g, g2, e5, e6⟩, fun x H'' y => ?_⟩
    obtain ⟨T0, x0, y0, rfl, hn, rfl, y1, y2⟩ := y
    have h1 : x0 = v := Option.some.inj ((y1 vs g).symm.trans e5)
    have h2 : y0 = w := Option.some.inj ((y2 ws g2).symm.trans e6)
    subst h1; subst h2
    exact pair_new R hn r r2
end

theorem rj_keys {K : PySem.W.Frag} {A : Ad} {ρ : List Addr} {H : Hp} {a : Addr} {o : Obj} {ks : List (Key × V)} {kvs : List (T × T)} (e : H a = some (.frz o (.dK ks))) (r : RKs K A ρ H ks kvs) : RJ K A ρ H (Itk a o ks) (.keys kvs) := by
  intro ρ' H' st' s R
  have r' := r.kp s
  have e' := s.frz _ _ _ e
  refine ⟨fun i h => ?_, fun i u h => ?_⟩
  · simp only [Itv.len, Option.some.injEq] at h
    exact ⟨e', by rw [r'.length]; omega⟩
  · simp only [Itv.get, Option.map_eq_some_iff] at h
    obtain ⟨p, e1, rfl⟩ := h
    have get : ∀ {ks : List (Key × V)} {kvs : List (T × T)}, RKs K A ρ' H' ks kvs → ∀ {i : Nat} {p : T × T}, kvs[i]? = some p → ∃ k v, ks[i]? = some (k, v) ∧ RT K A ρ' H' (kV k) p.1 := by
      intro ks kvs q
      induction ks generalizing kvs with
      | nil => cases q; intro i p z; simp at z
      | cons k0 ks ih =>
        cases q with | cons a b q =>
        intro i p z
        cases i with
        | zero => simp at z; subst z; exact ⟨_, _, rfl, a⟩
        | succ i =>
          obtain ⟨k, v, z1, z2⟩ := ih q (i := i) (by simpa using z)
          exact ⟨k, v, by simpa using z1, z2⟩
    obtain ⟨k, v, e2, e3⟩ := get r' e1
    refine ⟨⟨e', (List.getElem?_eq_some_iff.mp e2).1⟩, fun x H'' y => ?_⟩
    obtain ⟨rfl, k', v', y1, rfl⟩ := y
    rw [e2] at y1
    cases y1
    exact ⟨.refl, R, e3⟩
theorem PI_or {tg e : Expr} {t u : TI} (h : PI X tg e t) (h' : PI X tg e u) : PI X tg e (fun σ H R => t σ H R ∨ u σ H R) := ⟨fun pins s σ H R I q => q.elim (h.run pins s σ H R I) (h'.run pins s σ H R I)⟩
theorem i_val {tg e : Expr} {c : E} (he : PE X e (gE X A cl G W c)) : PI X tg e (tIt X.K A cl G W (.val c)) := by
  refine pi_w (PI_or (PI_or (pi_list he) (pi_tup he)) (pi_keys he)) fun σ H Q h => ?_
  obtain ⟨ρ, st, sl, R, S, h⟩ := h
  unfold evIt at h
  cases ev : evE cl G c sl st with
  | stuck => rw [ev] at h; exact h.elim
  | exc x st1 =>
    rw [ev] at h
    exact .inl (.inl ⟨ρ, st, sl, R, S, by rw [ev]; exact h⟩)
  | ok t st1 =>
    rw [ev, PF.R.bind_ok] at h
    unfold itVal at h
    cases es : seqOf st1 t with
    | none =>
      rw [es] at h
      dsimp only at h
      split at h
      · refine .inr ⟨ρ, st, sl, R, S, ?_⟩
        rw [ev]
        intro v H1 ρ1 s1 R1 v1
        cases v1 with | rod k q =>
        obtain ⟨o, k⟩ := k
        exact ⟨_, o, rfl, .inl ⟨_, k, h _ H1 ρ1 s1 R1 (rj_keys k q)⟩⟩
      · exact h.elim
    | some xs =>
      rw [es] at h
      refine .inl ?_
      have es : seqOf st1 (PF.unC t) = some xs := seqOf_unC.trans es
      have nC : ∀ l, PF.unC t ≠ .ctp l := unC_ne
      have rC : ∀ {ρ : List Addr} {H : Hp} {v : V}, RT X.K A ρ H v t → RT X.K A ρ H v (PF.unC t) := fun r => r.unC
      generalize PF.unC t = t' at h es nC rC
      by_cases hn : ∀ l, t' ≠ .tup l
      · refine .inl ⟨ρ, st, sl, R, S, ?_⟩
        rw [ev]
        intro v H1 ρ1 s1 R1 v1
        have v1 := rC v1
        obtain ⟨a, vs, rfl, g, q⟩ := R1.lst v1 (lst_of_seq es hn nC)
        exact ⟨_, rfl, ⟨vs, g⟩, h _ H1 ρ1 s1 R1 (rj_lst v1 hn nC)⟩
      · have : ∃ l, t' = .tup l := by
          cases t' <;> first | exact ⟨_, rfl⟩ | (exact absurd (fun l q => by cases q) hn)
        obtain ⟨l, rfl⟩ := this
        refine .inr ⟨ρ, st, sl, R, S, ?_⟩
        rw [ev]
        intro v H1 ρ1 s1 R1 v1
        have v1 := rC v1
        have v2 := v1
        cases v1 with | tup k q => exact ⟨_, rfl, ⟨_, k⟩, h _ H1 ρ1 s1 R1 (rj_tup v2)⟩
theorem three_rel {K : PySem.W.Frag} {ρ : List Addr} {H : Hp} {xs : List V} {t u w : T} (r : RTs K A ρ H xs [t, u, w]) : ∃ x y z, xs = [x, y, z] ∧ RT K A ρ H x t ∧ RT K A ρ H y u ∧ RT K A ρ H z w := by
  cases r with | cons r rr =>
  obtain ⟨y, z, rfl, r', r''⟩ := two_rel rr
  exact ⟨_, _, _, rfl, r, r', r''⟩
theorem es_len : ∀ {cs : Es} {k : Nat} {sl : Sl} {st st1 : Store} {ts : List T} (h : evEs cl G cs sl st = .ok ts st1), (∀ n C es, compEs n C es = some cs → es.length = ts.length)
  | .nil, _, sl, st, st1, ts, h, n, C, es, hc => by
    cases n with
    | zero => simp [compEs] at hc
    | succ n =>
      cases es with
      | nil => unfold evEs at h; cases h; rfl
      | cons e r =>
        simp only [compEs] at hc
        split at hc <;> cases hc
  | .cons c cs, k, sl, st, st1, ts, h, n, C, es, hc => by
    cases n with
    | zero => simp [compEs] at hc
    | succ n =>
      cases es with
      | nil => simp [compEs] at hc
      | cons e r =>
        simp only [compEs] at hc
        split at hc
        · rename_i c1 cs1 e1 e2
          cases hc
          unfold evEs at h
          cases ev : evE cl G c sl st with
          | stuck => rw [ev] at h; cases h
          | exc x s => rw [ev] at h; cases h
          | ok t s =>
            rw [ev, PF.R.bind_ok] at h
            cases ev2 : evEs cl G cs sl s with
            | stuck => rw [ev2] at h; cases h
            | exc x s => rw [ev2] at h; cases h
            | ok ts' s' =>
              rw [ev2, PF.R.bind_ok] at h
              cases h
              have := es_len (k := 0) ev2 n C r e2
              rw [List.length_cons, List.length_cons, this]
        · cases hc
theorem range_seq {ρ : List Addr} {H : Hp} {st : Store} {sl : Sl} {σ : L2.St} {cs : Es} {R' : L2.It → Hp → Prop} (R : Rel X.K A ρ H st) (S : RSl X.K A ρ H σ sl)
    (h : OkG X.K A (RJ X.K A) ρ H (evIt cl G (.range cs) sl st) R' fun k d H' => W k d σ H') :
    OkG X.K A (RTs X.K A) ρ H (evEs cl G cs sl st) (fun vs H1 => (∃ j : Int, vs = [.int j] ∧ -(2 ^ 62) ≤ j ∧ j < 2 ^ 62 ∧ R' (Itr 0 j.toNat) H1) ∨ (∃ i j : Int, vs = [.int i, .int j] ∧ (-(2 ^ 62) ≤ i ∧ i < 2 ^ 62 ∧ -(2 ^ 62) ≤ j ∧ j < 2 ^ 62) ∧ R' (Itr i (j - i).toNat) H1) ∨ ∃ i j : Int, vs = [.int i, .int j, .int (-1)] ∧ (-(2 ^ 62) ≤ i ∧ i < 2 ^ 62 ∧ -(2 ^ 62) ≤ j ∧ j < 2 ^ 62) ∧ R' (Itc i (-1) (i - j).toNat) H1) (fun k d H' => W k d σ H') := by
  unfold evIt at h
  refine h.seq fun ts st1 vs H1 ρ1 s1 R1 v1 h1 => ?_
  unfold itRange at h1
  split at h1
  · rename_i j
    obtain ⟨x, rfl, r⟩ := one_rel v1
    cases r
    split at h1
    · rename_i c
      unfold bnd62 at c
      have c := inS_iff.mp c
      unfold P62 at c
      exact .inl ⟨j, rfl, by omega, by omega, h1 _ H1 ρ1 .refl R1 rj_rng⟩
    · exact h1.elim
  · rename_i i j
    obtain ⟨x, y, rfl, r, r'⟩ := two_rel v1
    cases r; cases r'
    split at h1
    · rename_i c
      rw [Bool.and_eq_true] at c
      unfold bnd62 at c
      have c1 := inS_iff.mp c.1
      have c2 := inS_iff.mp c.2
      unfold P62 at c1 c2
      exact .inr (.inl ⟨i, j, rfl, ⟨by omega, by omega, by omega, by omega⟩, h1 _ H1 ρ1 .refl R1 rj_rng⟩)
    · exact h1.elim
  · rename_i i j c
    obtain ⟨x, y, z, rfl, r, r', r''⟩ := three_rel v1
    cases r; cases r'; cases r''
    split at h1
    · rename_i c
      obtain ⟨rfl, c⟩ := c
      rw [Bool.and_eq_true] at c
      unfold bnd62 at c
      have c1 := inS_iff.mp c.1
      have c2 := inS_iff.mp c.2
      unfold P62 at c1 c2
      exact .inr (.inr ⟨i, j, rfl, ⟨by omega, by omega, by omega, by omega⟩, h1 _ H1 ρ1 .refl R1 rj_rngC⟩)
    · exact h1.elim
  · exact h1.elim
theorem pa_len {es : List Expr} {t : TA} (h : PA X es t) {pins : List (Addr × Obj)} {s : Shared} {σ : L2.St} {H : Hp} {Q : List V → Hp → Prop} : True := trivial
theorem i_range {tg : Expr} {es : List Expr} {cs : Es} {p pos : Pos} {n : Nat} (cx : CxE X A cl G ar C W) (hg : glB C.sc "range" = true) (hm : C.gn.blt.contains "range" = true) (hl : es.length = 1 ∨ es.length = 2 ∨ es.length = 3) (hes : compEs n C es = some cs) (ha : PA X es (tEs X.K A cl G W cs)) :
    PI X tg (.Call (.Name "range" p) es [] pos) (tIt X.K A cl G W (.range cs)) := by
  have one : ∀ {a : Expr} {t : TA}, PA X [a] t → ∀ {pins : List (Addr × Obj)} {s : Shared} {σ : L2.St} {H : Hp} {Q : List V → Hp → Prop}, True := fun _ => trivial
  match es, hl, hes, ha with
  | [a], _, hes, ha =>
    cases n with
    | zero => simp [compEs] at hes
    | succ n =>
      simp only [compEs] at hes
      split at hes
      · rename_i c c' g1 g2
        cases hes
        have hc' : c' = .nil := by
          cases n with
          | zero => simp [compEs] at g2
          | succ n => simp only [compEs] at g2; exact (Option.some.inj g2).symm
        subst hc'
        refine pi_w (pi_range1 (gl_of cx hg) (cx.blt _ hm) ha (star_of g1 [] X.env)) fun σ H Q h => ?_
        obtain ⟨ρ, st, sl, R, S, h⟩ := h
        have q := range_seq R S h
        refine ⟨ρ, st, sl, R, S, ?_⟩
        unfold evEs evEs at q ⊢
        rw [show ∀ {α : Type} (r : PF.R T) (f : T → Store → PF.R α), r.bind f = r.bind f from fun _ _ => rfl]
        cases ev : evE cl G c sl st with
        | stuck => rw [ev] at q; exact q.elim
        | exc x st1 => rw [ev] at q; exact q
        | ok t st1 =>
          rw [ev] at q
          intro vs H1 ρ1 s1 R1 v1
          obtain ⟨x, rfl, r⟩ := one_rel v1
          rcases q [x] H1 ρ1 s1 R1 v1 with q | ⟨i, j, e, _⟩ | ⟨i, j, e, _⟩
          · exact q
          · cases e
          · cases e
      · cases hes
  | [a, b], _, hes, ha =>
    cases n with
    | zero => simp [compEs] at hes
    | succ n =>
      simp only [compEs] at hes
      split at hes
      · rename_i c c' g1 g2
        cases hes
        cases n with
        | zero => simp [compEs] at g2
        | succ n =>
          simp only [compEs] at g2
          split at g2
          · rename_i c2 c3 g3 g4
            cases g2
            have hc' : c3 = .nil := by
              cases n with
              | zero => simp [compEs] at g4
              | succ n => simp only [compEs] at g4; exact (Option.some.inj g4).symm
            subst hc'
            refine pi_w (pi_range2 (gl_of cx hg) (cx.blt _ hm) ha (by rw [star_of g1, star_of g3]; rfl) (by rw [star_of g3]; rfl)) fun σ H Q h => ?_
            obtain ⟨ρ, st, sl, R, S, h⟩ := h
            have q := range_seq R S h
            refine ⟨ρ, st, sl, R, S, ?_⟩
            cases ev : evEs cl G (.cons c (.cons c2 .nil)) sl st with
            | stuck => rw [ev] at q; exact q.elim
            | exc x st1 => rw [ev] at q; exact q
            | ok ts st1 =>
              rw [ev] at q
              intro vs H1 ρ1 s1 R1 v1
              have l2 : ts.length = 2 := by
                have := es_len (k := 0) ev (n + 2) C [a, b] (by simp only [compEs, g1, g3, g4])
                rw [← this]; rfl
              have l3 := v1.length
              rcases q vs H1 ρ1 s1 R1 v1 with ⟨j, e, _⟩ | q | ⟨i, j, e, _⟩
              · exfalso; rw [e, l2] at l3; cases l3
              · exact q
              · exfalso; rw [e, l2] at l3; cases l3
          · cases g2
      · cases hes
  | [a, b, c0], _, hes, ha =>
    cases n with
    | zero => simp [compEs] at hes
    | succ n =>
      simp only [compEs] at hes
      split at hes
      · rename_i c c' g1 g2
        cases hes
        cases n with
        | zero => simp [compEs] at g2
        | succ n =>
          simp only [compEs] at g2
          split at g2
          · rename_i c2 c3 g3 g4
            cases g2
            cases n with
            | zero => simp [compEs] at g4
            | succ n =>
              simp only [compEs] at g4
              split at g4
              · rename_i c4 c5 g5 g6
                cases g4
                have hc' : c5 = .nil := by
                  cases n with
                  | zero => simp [compEs] at g6
                  | succ n => simp only [compEs] at g6; exact (Option.some.inj g6).symm
                subst hc'
                refine pi_w (pi_range3 (gl_of cx hg) (cx.blt _ hm) ha (star_of g1 [b, c0] X.env) (by rw [star_of g3 [c0] X.env, star_of g5 [] X.env]; rfl)) fun σ H Q h => ?_
                obtain ⟨ρ, st, sl, R, S, h⟩ := h
                have q := range_seq R S h
                refine ⟨ρ, st, sl, R, S, ?_⟩
                cases ev : evEs cl G (.cons c (.cons c2 (.cons c4 .nil))) sl st with
                | stuck => rw [ev] at q; exact q.elim
                | exc x st1 => rw [ev] at q; exact q
                | ok ts st1 =>
                  rw [ev] at q
                  intro vs H1 ρ1 s1 R1 v1
                  have l2 : ts.length = 3 := by
                    have := es_len (k := 0) ev (n + 3) C [a, b, c0] (by simp only [compEs, g1, g3, g5, g6])
                    rw [← this]; rfl
                  have l3 := v1.length
                  rcases q vs H1 ρ1 s1 R1 v1 with ⟨j, e, _⟩ | ⟨i, j, e, _⟩ | ⟨i, j, e, ⟨b1, b2, b3, b4⟩, q⟩
                  · exfalso; rw [e, l2] at l3; cases l3
                  · exfalso; rw [e, l2] at l3; cases l3
                  · exact ⟨i, j, -1, _, e, RgC.neg b1 b2 b3 b4, q⟩
              · cases g4
          · cases g2
      · cases hes
theorem i_enum {elts : List Expr} {kk : Nat} {tp : Pos} {a : Expr} {c : E} {p pos : Pos} {n : Nat} (cx : CxE X A cl G ar C W) (hg : glB C.sc "enumerate" = true) (hm : C.gn.blt.contains "enumerate" = true) (hc : compE n C a = some c) (ha : PE X a (gE X A cl G W c)) :
    PI X (.Tuple elts kk tp) (.Call (.Name "enumerate" p) [a] [] pos) (tIt X.K A cl G W (.enum c)) := by
  refine pi_w (PI_or (pi_enum (gl_of cx hg) (cx.blt _ hm) (pa_cons ha pa_nil (star_of hc [] X.env)) (star_of hc [] X.env)) (pi_enumT (gl_of cx hg) (cx.blt _ hm) (pa_cons ha pa_nil (star_of hc [] X.env)) (star_of hc [] X.env))) fun σ H Q h => ?_
  obtain ⟨ρ, st, sl, R, S, h⟩ := h
  unfold evIt at h
  cases ev : evE cl G c sl st with
  | stuck => rw [ev] at h; exact h.elim
  | exc x st1 =>
    rw [ev] at h
    exact .inl ⟨ρ, st, sl, R, S, by rw [ev]; exact h⟩
  | ok t st1 =>
    rw [ev, PF.R.bind_ok] at h
    unfold itEnum at h
    cases es : seqOf st1 t with
    | none => rw [es] at h; exact h.elim
    | some xs =>
      rw [es] at h
      have es : seqOf st1 (PF.unC t) = some xs := seqOf_unC.trans es
      have nC : ∀ l, PF.unC t ≠ .ctp l := unC_ne
      have rC : ∀ {ρ : List Addr} {H : Hp} {v : V}, RT X.K A ρ H v t → RT X.K A ρ H v (PF.unC t) := fun r => r.unC
      generalize PF.unC t = t' at h es nC rC
      by_cases hn : ∀ l, t' ≠ .tup l
      · refine .inl ⟨ρ, st, sl, R, S, ?_⟩
        rw [ev]
        intro v H1 ρ1 s1 R1 v1
        have v1 := rC v1
        obtain ⟨a, vs, rfl, g, q⟩ := R1.lst v1 (lst_of_seq es hn nC)
        exact ⟨_, _, rfl, g, h _ H1 ρ1 s1 R1 (rj_enum v1 hn nC)⟩
      · have : ∃ l, t' = .tup l := by
          cases t' <;> first | exact ⟨_, rfl⟩ | (exact absurd (fun l q => by cases q) hn)
        obtain ⟨l, rfl⟩ := this
        refine .inr ⟨ρ, st, sl, R, S, ?_⟩
        rw [ev]
        intro v H1 ρ1 s1 R1 v1
        have v1 := rC v1
        have v2 := v1
        cases v1 with | tup k q => exact ⟨_, _, rfl, k, h _ H1 ρ1 s1 R1 (rj_enumT v2)⟩
theorem i_zip {elts : List Expr} {kk : Nat} {tp : Pos} {a b : Expr} {c d : E} {p pos : Pos} {n m : Nat} (cx : CxE X A cl G ar C W) (hg : glB C.sc "zip" = true) (hm : C.gn.blt.contains "zip" = true) (hc : compE n C a = some c) (ha : PE X a (gE X A cl G W c)) (hd : compE m C b = some d) (hb : PE X b (gE X A cl G W d)) :
    PI X (.Tuple elts kk tp) (.Call (.Name "zip" p) [a, b] [] pos) (tIt X.K A cl G W (.zip c d)) := by
  refine pi_w (pi_zipK (gl_of cx hg) (cx.blt _ hm) (pa_cons ha (pa_cons hb pa_nil (star_of hd [] X.env)) (star_of hc [b] X.env)) (star_of hc [b] X.env) (by rw [star_of hd [] X.env]; rfl)) fun σ H Q h => ?_
  obtain ⟨ρ, st, sl, R, S, h⟩ := h
  unfold evIt at h
  refine ⟨ρ, st, sl, R, S, h.seq fun t st1 v H1 ρ1 s1 R1 v1 h1 => ?_⟩
  refine ⟨ρ1, st1, sl, R1, S.step s1, h1.seq fun u st2 w H2 ρ2 s2 R2 w2 h2 => ?_⟩
  have v2 := v1.step s2
  unfold itZip at h2
  split at h2
  · rename_i xs ys e1 e2
    obtain ⟨a, vs, rfl, _⟩ := R2.seq v2 e1
    obtain ⟨b, ws, rfl, _⟩ := R2.seq w2 e2
    obtain ⟨vs, g, q⟩ := R2.seqK v2.unC (seqOf_unC.trans e1) unC_ne
    obtain ⟨ws, g2, q2⟩ := R2.seqK w2.unC (seqOf_unC.trans e2) unC_ne
    exact ⟨_, _, _, _, vs, ws, rfl, g, g2, h2 _ H2 ρ2 .refl R2 (rj_zip v2.unC w2.unC unC_ne unC_ne)⟩
  · exact h2.elim

/-! ### slots -/
theorem wipe_get (σ : L2.St) : ∀ (vs : List Nat) (j : Nat), (wipe σ vs)[j]? = if j ∈ vs then (if j < σ.length then some none else none) else σ[j]?
  | [], j => by simp [wipe]
  | v :: vs, j => by
    have ih := wipe_get σ vs j
    unfold wipe
    by_cases e : v = j
    · subst e
      rw [if_pos List.mem_cons_self]
      by_cases hl : v < σ.length
      · rw [if_pos hl, List.getElem?_set_self (by rw [wipe_length]; exact hl)]
      · rw [if_neg hl, List.getElem?_eq_none (by rw [List.length_set, wipe_length]; omega)]
    · rw [List.getElem?_set_ne e, ih]
      have : (j ∈ v :: vs) ↔ j ∈ vs := by simp [List.mem_cons, Ne.symm e]
      by_cases h : j ∈ vs
      · rw [if_pos h, if_pos (this.mpr h)]
      · rw [if_neg h, if_neg (fun q => h (this.mp q))]
theorem wipe_set {σ : L2.St} {i : Nat} {x : Option V} {vs : List Nat} (h : i ∈ vs) : wipe (σ.set i x) vs = wipe σ vs := by
  apply List.ext_getElem?
  intro j
  rw [wipe_get, wipe_get]
  by_cases hj : j ∈ vs
  · rw [if_pos hj, if_pos hj, List.length_set]
  · rw [if_neg hj, if_neg hj, List.getElem?_set_ne (fun e => hj (by rw [← e]; exact h))]
theorem wipeL_length (sl : Sl) : ∀ vs : List Nat, (wipeL sl vs).length = sl.length
  | [] => rfl
  | v :: vs => by unfold wipeL; rw [List.length_set, wipeL_length sl vs]
theorem wipeL_some {sl : Sl} {i : Nat} {x : T} : ∀ {vs : List Nat}, (wipeL sl vs)[i]? = some (some x) → sl[i]? = some (some x) ∧ i ∉ vs
  | [], h => ⟨h, by simp⟩
  | v :: vs, h => by
    unfold wipeL at h
    by_cases hi : v = i
    · subst hi
      by_cases hv : v < (wipeL sl vs).length
      · rw [List.getElem?_set_self hv] at h; cases h
      · rw [List.getElem?_eq_none (by simpa using hv)] at h; cases h
    · rw [List.getElem?_set_ne hi] at h
      obtain ⟨h1, h2⟩ := wipeL_some h
      exact ⟨h1, by simp only [List.mem_cons, not_or]; exact ⟨fun e => hi e.symm, h2⟩⟩
theorem RSl.wipe {K : PySem.W.Frag} {ρ : List Addr} {H : Hp} {σ : L2.St} {sl : Sl} (S : RSl K A ρ H σ sl) (vs : List Nat) : RSl K A ρ H (L2.wipe σ vs) (wipeL sl vs) := by
  refine ⟨by rw [wipe_length, wipeL_length]; exact S.len, fun i t e => ?_⟩
  obtain ⟨e1, e2⟩ := wipeL_some e
  obtain ⟨v, e3, r⟩ := S.at_ i t e1
  exact ⟨v, by rw [wipe_get, if_neg e2]; exact e3, r⟩
theorem RSl.set {K : PySem.W.Frag} {ρ : List Addr} {H : Hp} {σ : L2.St} {sl : Sl} {v : V} {t : T} (S : RSl K A ρ H σ sl) (i : Nat) (r : RT K A ρ H v t) : RSl K A ρ H (σ.set i (some v)) (sl.set i (some t)) := by
  refine ⟨by rw [List.length_set, List.length_set]; exact S.len, fun j u e => ?_⟩
  by_cases hi : i = j
  · subst hi
    have hl : i < sl.length := by
      by_cases q : i < sl.length
      · exact q
      · rw [List.getElem?_eq_none (by rw [List.length_set]; omega)] at e; cases e
    rw [List.getElem?_set_self hl] at e
    cases e
    exact ⟨v, List.getElem?_set_self (by rw [S.len]; exact hl), r⟩
  · rw [List.getElem?_set_ne hi] at e
    obtain ⟨w, e1, q⟩ := S.at_ j u e
    exact ⟨w, by rw [List.getElem?_set_ne hi]; exact e1, q⟩
theorem Out.refl {l : List Nat} {σ : L2.St} : Out l σ σ := fun _ _ => rfl
theorem Out.trans {l l' : List Nat} {σ σ1 σ2 : L2.St} (a : Out l σ σ1) (b : Out l' σ1 σ2) : Out (l ++ l') σ σ2 := fun vs h => (b vs fun i hi => h i (List.mem_append_right _ hi)).trans (a vs fun i hi => h i (List.mem_append_left _ hi))

/-! ### targets -/
theorem OkG.seq' {K : PySem.W.Frag} {ρ : List Addr} {H : Hp} {α β : Type} {rr rs : List Addr → Hp → β → α → Prop} {r : PF.R α} {Q : β → Hp → Prop} {W' : Value → Option Addr → Hp → Prop} (h : OkG K A rs ρ H r Q W') (hk : ∀ b H' ρ' a, rr ρ' H' b a → rs ρ' H' b a) : OkG K A rr ρ H r Q W' := by
  cases r with
  | ok a st' => exact fun b H' ρ' s' R' q => h b H' ρ' s' R' (hk _ _ _ _ q)
  | exc x st' => exact h
  | stuck => exact h
theorem g_nm (cx : CxE X A cl G ar C W) {x : Str} {pos : Pos} {i : Nat} (h1 : locB C x = true) (h2 : idx C.N x = some i) : PG X (.Name x pos) (tTg X.K A cl G (.nm i)) := by
  obtain ⟨l1, l2⟩ := loc_of cx h1
  refine pg_w (pg_name (i := i) cx.nd (by rw [cx.N]; exact idx_some h2) l1 l2) fun v σ H Q h => ?_
  obtain ⟨ρ, st, sl, t, R, S, r, h⟩ := h
  unfold evTg at h
  exact h (σ.set i (some v)) H ρ .refl R ⟨S.set i r, fun vs hv => wipe_set (hv i (by simp [Tg.slots]))⟩
theorem gs_nil : PGs X [] (tTgs X.K A cl G .nil) := pgs_w pgs_nil fun v σ H Q h => by
  obtain ⟨ρ, st, sl, ts, R, S, r, h⟩ := h
  cases r with
  | nil =>
    unfold evTgs at h
    exact ⟨rfl, h σ H ρ .refl R ⟨S, .refl⟩⟩
  | cons a b => unfold evTgs at h; exact h.elim
theorem tstar_of {n : Nat} {C : Cmp} {e : Expr} {c : Tg} (h : compTg n C e = some c) (es : List Expr) (env : PySem.Env) : assignEach (e :: es) env = (false, assign e env) :: assignEach es env := by
  cases n with
  | zero => simp [compTg] at h
  | succ n => cases e <;> first | rfl | (simp [compTg] at h)
theorem gs_cons {e : Expr} {es : List Expr} {c : Tg} {cs : Tgs} (he : PG X e (tTg X.K A cl G c)) (hs : PGs X es (tTgs X.K A cl G cs)) (hst : assignEach (e :: es) X.env = (false, assign e X.env) :: assignEach es X.env) : PGs X (e :: es) (tTgs X.K A cl G (.cons c cs)) := by
  refine pgs_w (pgs_cons he hs (by rw [hst]; rfl)) fun v σ H Q h => ?_
  obtain ⟨ρ, st, sl, ts, R, S, r, h⟩ := h
  cases r with
  | nil => unfold evTgs at h; exact h.elim
  | cons a b =>
    unfold evTgs at h
    refine ⟨_, _, rfl, ρ, st, sl, _, R, S, a, h.seq fun sl1 st1 σ1 H1 ρ1 s1 R1 v1 h1 => ?_⟩
    refine ⟨ρ1, st1, sl1, _, R1, v1.1, b.step s1, h1.seq' fun σ2 H2 ρ2 sl2 r2 => ⟨r2.1, v1.2.trans r2.2⟩⟩
theorem PG_or {e : Expr} {t u : TG} (h : PG X e t) (h' : PG X e u) : PG X e (fun v σ H Q => t v σ H Q ∨ u v σ H Q) := ⟨fun pins s σ H v w Q I r q => q.elim (h.run pins s σ H v w Q I r) (h'.run pins s σ H v w Q I r)⟩
theorem g_tup {es : List Expr} {k : Nat} {pos : Pos} {cs : Tgs} {n : Nat} (hc : X.calm = true) (h : PGs X es (tTgs X.K A cl G cs)) (hl : (assignEach es X.env).length = es.length) (hst : (assignEach es X.env).findIdx? (·.1) = none) (hlen : cs.len = es.length) : PG X (.Tuple es k pos) (tTg X.K A cl G (.tup cs)) := by
  refine pg_w (PG_or (pg_tup hc h hl hst) (pg_unl (n := es.length) hc h hl hst)) fun v σ H Q h => ?_
  obtain ⟨ρ, st, sl, t, R, S, r, h⟩ := h
  unfold evTg at h
  split at h
  · rename_i xs
    cases r with | tup k q =>
    split at h
    · rename_i c
      exact .inl ⟨_, _, rfl, k, by rw [q.length, ← hlen]; exact c, ρ, st, sl, xs, R, S, q, h⟩
    · exact h.elim
  · rename_i xs
    cases r with | rol k q =>
    split at h
    · rename_i c
      exact .inr ⟨_, _, rfl, k.sql, by rw [q.length, ← hlen]; exact c, ρ, st, sl, xs, R, S, q, h⟩
    · exact h.elim
  · exact h.elim
end
end PF

end

section
set_option Elab.async false
set_option linter.all false
set_option maxRecDepth 100000
set_option maxHeartbeats 4000000
set_option autoImplicit false
/-! PfX0: an exception leaves a list comprehension of a def's own frame. -/
namespace PySem
namespace HandSPX
section
variable {M : Model} {A : Around} {E : Value → Shared → Prop} {s : Shared} {Z : Obj → Prop} {base : Heap} {env : Env} {outer l : List Env} {L e C : Addr}
/-- noted at another place -/
theorem looks_heldZ {Q : Unit → Shared → Prop} (hZ : Steady Z) (hfr : A.frames = some (env :: outer)) (hf : env.frame = some L) (hCL : C ≠ L) (hfl : HeldZ base (env :: outer) e Z C s.heap)
    (hQ : ∀ h', HeldZ base (env :: outer) e Z L h' → s.heap.UpToSlots h' → Q () { s with heap := h' }) : wpAny M A (noteFrame (.ref e) env) Q E s := by
  obtain ⟨hkb, hen, hl, oe, vs, T, oT, ts, he, hz, hd, h1, hnT, hTe, hT, hdT, h3⟩ := hfl
  unfold noteFrame
  simp only [hf]
  refine wpAny_bind (wpAny_field he hd h1 ?_)
  rw [if_pos (show (Value.ref T != Value.none) = true from by simp)]
  refine wpAny_bind (wpAny_field hT hdT h3 ?_)
  rw [if_neg (show ¬ ((rawInt C == rawInt L) = true) from fun z => hCL (by have z := beq_iff_eq.mp z; simp only [rawInt] at z; injection z with z; first | exact Int.ofNat.inj z | omega | exact_mod_cast z))]
  refine wpAny_bind (wpAny_setField hT hdT (Array.getElem?_eq_some_iff.mp h3).1 ?_)
  have other : ∀ b, b ≠ T → (s.heap.update T (Obj.mapFields (·.setIfInBounds 3 Value.none))).get? b = s.heap.get? b := fun b hb => Heap.get?_update_other _ _ (Ne.symm hb)
  have noRecord : ∀ b o, s.heap.get? b = some o → (∀ vs, o.data ≠ .fields vs) → b ≠ T := fun b o hb hnf q => by
    rw [q, hT] at hb; injection hb with hb; subst hb; exact hnf ts hdT
  refine wpAny_entryZ hZ hfr (hl.of_keeps fun b o hb hnf => ⟨o, (other b (noRecord b o hb hnf)).trans hb, rfl⟩) hf ((other e (Ne.symm hTe)).trans he)
    (fun b o hbo => (other b fun q => by rw [q, hnT] at hbo; cases hbo).trans (hkb b o hbo)) hen hd (Array.getElem?_eq_some_iff.mp h1).1 hz fun h' hN => ?_
  obtain ⟨x1, x2, x3, x4⟩ := hN
  exact hQ h' ⟨x1, hen, x2, x3⟩ fun b o hb hnf => x4 b o ((other b (noRecord b o hb hnf)).trans hb) hnf
end
end HandSPX
end PySem
namespace L2
open PySem PySem.Spec PyProof.Rows
/-- the frames, over a heap that differs at C -/
theorem funFrames_but {B B' h h' : Heap} {C : Addr} (hB : ∀ b o, B'.get? b = some o → B.get? b = some o) (sb : ∀ b, b ≠ C → h'.get? b = h.get? b) : ∀ {l : List Env}, C ∉ frs l → h.FunFrames B l → h'.FunFrames B' l
  | [], _, _ => trivial
  | env :: l, hC, hh => by
    obtain ⟨hk, ⟨L, o, hf, hn, ho, hd⟩, hr⟩ := hh
    have hm : ∀ b, b ∈ frs l → b ∈ frs (env :: l) := fun b hb => by
      unfold frs; rw [List.filterMap_cons, hf]; exact List.mem_cons_of_mem _ hb
    have hL : L ≠ C := fun z => hC (by unfold frs; rw [List.filterMap_cons, hf, z]; exact List.mem_cons_self)
    refine ⟨hk, ⟨L, o, hf, ?_, (sb L hL).trans ho, hd⟩, funFrames_but hB sb (fun z => hC (hm _ z)) hr⟩
    cases q : B'.get? L with
    | none => rfl
    | some o' => rw [hB L o' q] at hn; cases hn
section
variable {X : Cx}
/-- what a block owes for an exception -/
abbrev Cx.blkx (X : Cx) (s : Shared) (H : Hp) (scope : Scope) (cenv : Env) (fp : List Addr) (xe : Value → Shared → Prop) : Cx := (X.blk s H scope cenv fp).tr [] xe
theorem block_takes {W : WX} {pins : List (Addr × Obj)} {σ : St} {H3 : Hp} {s3 : Shared} {scope : Scope} {cl : List (Str × Addr)} {fp : List Addr} {Q : Value → Shared → Prop} {acc : Value} (hs : X.stack = X.env :: X.outer) (hf : X.env.frame = some X.env.locals) (tk : Takes X W) (I3 : Inv X pins σ H3 s3)
    (f3 : ∀ b ∈ fp, FpOk X pins H3 b ∧ b < s3.heap.objs.size) (xe : Value → Shared → Prop)
    (hxe : xe = notedBy (model X.prog X.w) X.A (compEnvC scope cl s3.heap.objs.size X.env) fun e s' => compEnds (model X.prog X.w) X.A X.xe none Q acc (compEnvC scope cl s3.heap.objs.size X.env) (.error e) s') :
    Takes (X.blkx s3 H3 scope (compEnvC scope cl s3.heap.objs.size X.env) fp xe) (fun cls d _ H' => W cls d σ H') := by
  rintro u s' ⟨a, B, sI, pins', σ', H', cls, d, rfl, J, nb, up, sky, na, os, ag, w⟩
  show xe _ _
  rw [hxe]
  have hfr : X.A.frames = some (X.env :: X.outer) := by rw [I3.ok.frames, hs]
  have I6 : Inv X pins σ H' sI := I3.call' (ch := fp) J.os J.base J.hok J.bare fun b hb => ⟨(f3 b hb).1.2.2.2.1, (f3 b hb).1.2.1, (f3 b hb).1.2.2.2.2.1, (f3 b hb).1.2.2.2.2.2⟩
  have nC : H' s3.heap.objs.size = none := J.free
  have fC := I3.fpOk (b := s3.heap.objs.size) (Nat.le_refl _) nC
  obtain ⟨m, hn, _⟩ := J.loc
  have hn : sI.heap.Ns s3.heap.objs.size m := hn
  have hCs : s3.heap.objs.size ∉ frs X.stack := fun z => by
    rcases List.mem_cons.mp (I3.stkSub _ z) with e | e
    · exact fC.2.1 e
    · exact fC.2.2.1 e
  have sky' : Sky B (X.env :: X.outer) a (Zc cls d) s3.heap.objs.size s'.heap := by rw [← hs]; exact sky
  have hCs' : s3.heap.objs.size ∉ frs (X.env :: X.outer) := by rw [← hs]; exact hCs
  generalize hC : s3.heap.objs.size = C at *
  have fin : ∀ h1, HandSPX.HeldZ B (X.env :: X.outer) a (Zc cls d) X.env.locals h1 → s'.heap.UpToSlots h1 → CompFails (model X.prog X.w) X.A X.xe (compEnvC scope cl C X.env) (.ref a) { s' with heap := h1 } := fun h1 hh up1 => by
    have n1 : h1.Ns C m := up1.ns (up.ns hn)
    refine ⟨m, n1, fun h2 m2 hn2 sb => ?_⟩
    obtain ⟨k1, k2, k3, oe, vs, T, oT, ts, he, hz, hd, hv, hnT, hTe, hT, hdT, h3⟩ := hh
    have neC : ∀ {b : Addr} {o : Obj} {vs : Array Value}, h1.get? b = some o → o.data = .fields vs → b ≠ C := fun {b o vs} e dd z => by
      obtain ⟨o', es, ep, ho', hd', _⟩ := n1
      rw [z, ho'] at e; cases e
      rw [hd'] at dd; cases dd
    have B'B : ∀ b o, (PySem.W.hideAll B [C]).get? b = some o → B.get? b = some o := fun b o e => PySem.W.of_hideAll _ e
    have B'C : (PySem.W.hideAll B [C]).get? C = none := PySem.W.hideAll_none _ (by simp)
    have BB' : ∀ b o, b ≠ C → B.get? b = some o → (PySem.W.hideAll B [C]).get? b = some o := fun b o hb e => PySem.W.hideAll_get _ e (by simpa using hb)
    have nB' : ∀ b, B.get? b = none → (PySem.W.hideAll B [C]).get? b = none := fun b e => by
      cases q : (PySem.W.hideAll B [C]).get? b with
      | none => rfl
      | some o => rw [B'B b o q] at e; cases e
    have hh2 : HandSPX.HeldZ (PySem.W.hideAll B [C]) (X.env :: X.outer) a (Zc cls d) X.env.locals h2 := by
      refine ⟨fun b o e => ?_, nB' a k2, funFrames_but B'B sb.2 hCs' k3, oe, vs, T, oT, ts, (sb.2 a (neC he hd)).trans he, hz, hd, hv, nB' T hnT, hTe, (sb.2 T (neC hT hdT)).trans hT, hdT, h3⟩
      have hb : b ≠ C := fun z => by rw [z, B'C] at e; cases e
      exact (sb.2 b hb).trans (k1 b o (B'B b o e))
    unfold PySem.passOn
    refine wpAny_bind (wpAny_field ((sb.2 a (neC he hd)).trans he) hd hv ?_)
    rw [if_neg (show ¬ ((Value.ref T == Value.none) = true) from by simp)]
    have fin2 : wpAny (model X.prog X.w) X.A (setFlight (.ref a) (compEnvC scope cl C X.env).frame) (fun _ s4 => wpAny (model X.prog X.w) X.A (throw (.ref a) : Sem Value) (fun _ _ => False) X.xe s4) X.xe { s' with heap := h2 } := by
      show wpAny _ _ (setFlight (.ref a) X.env.frame) _ _ _
      rw [hf]
      refine HandSPX.setFlight_onZ hh2 fun h4 hh4 up4 => wpAny_throw (tk _ _ ?_)
      have I7 : Inv X pins σ H' { sI with heap := PySem.W.hideAll sI.heap [C], toks := sI.toks } := by
        obtain ⟨f0, f1, f2, f3, f4, f5⟩ := fC
        exact I6.turned (it := C) (fun b o hb e => PySem.W.hideAll_get _ e (by simpa using hb)) f0 f1 f3 f4 f5
      refine ⟨a, PySem.W.hideAll B [C], _, pins, σ, H', cls, d, rfl, I7, fun b o e hb => ?_, fun b o e hnf => ?_, .inr (.inr (by rw [hs]; exact hh4)), na, os, ag, w⟩
      · have e1 : sI.heap.get? b = some o := PySem.W.of_hideAll _ e
        have hbC : b ≠ C := fun z => by
          have e : (PySem.W.hideAll sI.heap [C]).get? b = some o := e
          rw [z, PySem.W.hideAll_none _ (by simp)] at e; cases e
        exact BB' b o hbC (nb b o e1 hb)
      · have e1 : sI.heap.get? b = some o := PySem.W.of_hideAll _ e
        have hbC : b ≠ C := fun z => by
          have e : (PySem.W.hideAll sI.heap [C]).get? b = some o := e
          rw [z, PySem.W.hideAll_none _ (by simp)] at e; cases e
        obtain ⟨sl1, q1⟩ := up b o e1 hnf
        obtain ⟨sl2, q2⟩ := up1 b _ q1 hnf
        have q3 : h2.get? b = _ := (sb.2 b hbC).trans q2
        obtain ⟨sl4, q4⟩ := up4 b _ q3 hnf
        exact ⟨sl4, q4⟩
    first
      | exact wpAny_bind (wpAny_pure (wpAny_bind fin2))
      | exact wpAny_bind fin2
  show wpAny (model X.prog X.w) X.A (noteFrame (.ref a) X.env) _ _ _
  rcases sky' with ⟨hB, hn', hl, oe, vs, he, hz, hd, h1⟩ | fl | hh
  · exact HandSPX.look_newZ Zc.steady hfr hl hf he hB hn' hd h1 hz fin
  · exact HandSPX.looks_onZ Zc.steady hfr hf fl fin
  · exact HandSPX.looks_heldZ Zc.steady hfr hf fC.2.1 hh fin
end
end L2

end

section
set_option Elab.async false
set_option linter.all false
set_option maxRecDepth 100000
set_option maxHeartbeats 4000000
set_option autoImplicit false
/-! PfX1: list comprehensions that an exception may leave. -/
namespace L2
open PySem PySem.Spec PyProof.Rows
section
variable {X : Cx}
/-- as tLc; the tests and the element may know the slots around -/
def tLcx (wi : TI) (g : TG) (tt : St → TT) (te : St → TE) (vs : List Nat) : TE := fun σ H Q => tLc wi g (tt σ) (te σ) vs σ H Q
theorem pe_lcx {W : WX} {elt tg iter : Expr} {ifs : List Expr} {scope : Scope} {own : List (Str × Nat)} {pos : Pos} {wi : TI} {g : TG} {tt : St → TT} {te : St → TE} (hc : X.calm = true) (hN : X.N.Nodup) (hst : X.stack = X.env :: X.outer) (hfm : X.env.frame = some X.env.locals) (tk : Takes X W) (hi : PI X tg iter wi) (ok : BlkOk X.N X.env.scope scope own)
    (hg : ∀ (s : Shared) (H : Hp) (C : Addr) (cl : List (Str × Addr)) (fp : List Addr) (xe : Value → Shared → Prop) (σ : St), Takes (X.blkx s H scope (compEnvC scope cl C X.env) fp xe) (fun cls d _ H' => W cls d σ H') → PG (X.blkx s H scope (compEnvC scope cl C X.env) fp xe) tg g)
    (ht : ∀ (s : Shared) (H : Hp) (C : Addr) (cl : List (Str × Addr)) (fp : List Addr) (xe : Value → Shared → Prop) (σ : St), Takes (X.blkx s H scope (compEnvC scope cl C X.env) fp xe) (fun cls d _ H' => W cls d σ H') → PTs (X.blkx s H scope (compEnvC scope cl C X.env) fp xe) ifs (tt σ))
    (he : ∀ (s : Shared) (H : Hp) (C : Addr) (cl : List (Str × Addr)) (fp : List Addr) (xe : Value → Shared → Prop) (σ : St), Takes (X.blkx s H scope (compEnvC scope cl C X.env) fp xe) (fun cls d _ H' => W cls d σ H') → PE (X.blkx s H scope (compEnvC scope cl C X.env) fp xe) elt (te σ))
    (hs : ∀ x, foldedSetIterable iter X.env x = pure x) :
    PE X (.ListComp elt [⟨tg, iter, ifs, 0⟩] scope pos) (tLcx wi g tt te (own.map (·.2))) := by
  refine ⟨fun pins s σ H Q I h => ?_⟩
  rw [eval_ListComp]
  have hfree : ∀ y ∈ scope.names, y.2 = .free → ∃ c, X.env.cells.lookup y.1 = some c := fun y hy e => by
    rcases ok.free y hy e with k | k
    · exact I.ok.has _ (.inl k)
    · exact I.ok.has _ (.inr k)
  have h : tLc wi g (tt σ) (te σ) (own.map (·.2)) σ H Q := h
  refine comprehension_at (use := none) rfl hs (closure_ok hfree) ok.kind (fun y hy e => by rw [ok.uniq y hy, e])
    (thn (hi.run pins s σ H _ I h) fun xv s1 hx => thn hx fun itv s2 h2 => ?_)
  obtain ⟨it, fp, tn, J, H2, e, I2, T, st2, f2, q⟩ := h2
  subst e
  refine wpAny_newObj_type (newEnv_comp ?_) (by show 0 ≤ sizeLine; decide)
  generalize hD : s2.heap.objs.size = D
  have hDn : H2 D = none := I2.hok.fresh (Nat.le_of_eq hD)
  obtain ⟨W, ⟨m0, w0⟩, turn⟩ := q D hDn
  -- the new list
  generalize hs3 : ({ s2 with heap := s2.heap.push { cls := .type "list", data := .seq ([] : List Value).toArray } } : Shared) = s3
  have I3 : Inv X pins σ (upd H2 D (.lst [])) s3 := by
    rw [← hs3]
    refine I2.laid (t' := s2.toks) (fun b o e => Heap.get?_push_of_some _ e) (Nat.le_of_eq hD) ⟨Nat.zero_le _, [], 0, .nil, ?_⟩
    rw [← hD]
    exact Heap.get?_push_size _ rfl
  have h3 : s3.heap = s2.heap.push { cls := .type "list", data := .seq ([] : List Value).toArray } := by rw [← hs3]
  have sz : ∀ b ∈ fp, b < s2.heap.objs.size := fun b hb => by
    obtain ⟨o, e, _⟩ := T.obj _ _ st2 b hb
    exact Heap.lt_size e
  have f3 : ∀ b ∈ fp, FpOk X pins (upd H2 D (.lst [])) b ∧ b < s3.heap.objs.size := fun b hb => by
    have hlt := sz b hb
    refine ⟨⟨?_, (f2 b hb).2⟩, by rw [h3, Heap.size_push]; exact Nat.lt_succ_of_lt hlt⟩
    rw [upd_ne (by rw [← hD]; exact Nat.ne_of_lt hlt)]
    exact (f2 b hb).1
  have st3 : tn 0 s3.heap := T.keep _ _ _ st2 fun b _ o e => by rw [h3]; exact Heap.get?_push_of_some _ e
  have I4 := block_start I3 ok hN f3
  -- what the block owes for an exception
  obtain ⟨xe, hxe⟩ : ∃ xe : Value → Shared → Prop, xe = notedBy (model X.prog X.w) X.A (compEnvC scope (cellsFrom (s3.heap.objs.size + 1) scope.names (cloFrom X.env.cells scope.names [])) s3.heap.objs.size X.env) fun e s' => compEnds (model X.prog X.w) X.A X.xe none (EP X pins σ Q) (.ref D) (compEnvC scope (cellsFrom (s3.heap.objs.size + 1) scope.names (cloFrom X.env.cells scope.names [])) s3.heap.objs.size X.env) (.error e) s' := ⟨_, rfl⟩
  have tkb := block_takes (acc := .ref D) (Q := EP X pins σ Q) hst hfm tk I3 f3 xe hxe
  have I4 : Inv (X.blkx s3 (upd H2 D (.lst [])) scope (compEnvC scope (cellsFrom (s3.heap.objs.size + 1) scope.names (cloFrom X.env.cells scope.names [])) s3.heap.objs.size X.env) fp xe) [] (wipe σ (own.map (·.2))) (upd H2 D (.lst [])) _ :=
    ⟨⟨I4.ok.mod, I4.ok.kind, I4.ok.glob, I4.ok.blt, I4.ok.above, I4.ok.inj, I4.ok.has, I4.ok.cab, I4.ok.hd, I4.ok.frames, I4.ok.stk, I4.ok.exf, I4.ok.bs, I4.ok.bsz, I4.ok.noex, I4.ok.exfs, I4.ok.funs, I4.ok.frf⟩, I4.os, I4.bare, I4.base, I4.loc, I4.cell, I4.free, I4.freeC, I4.pin, I4.hok, I4.len⟩
  have pg := hg s3 (upd H2 D (.lst [])) s3.heap.objs.size (cellsFrom (s3.heap.objs.size + 1) scope.names (cloFrom X.env.cells scope.names [])) fp xe σ tkb
  have pt := ht s3 (upd H2 D (.lst [])) s3.heap.objs.size (cellsFrom (s3.heap.objs.size + 1) scope.names (cloFrom X.env.cells scope.names [])) fp xe σ tkb
  have pe := he s3 (upd H2 D (.lst [])) s3.heap.objs.size (cellsFrom (s3.heap.objs.size + 1) scope.names (cloFrom X.env.cells scope.names [])) fp xe σ tkb
  show codeAny _ _ (.compStart (.ListComp elt [⟨tg, iter, ifs, 0⟩] scope pos) 0 (.ref it) (.ref D) (compEnvC scope (cellsFrom (s3.heap.objs.size + 1) scope.names (cloFrom X.env.cells scope.names [])) s3.heap.objs.size X.env)) (compEnds (model X.prog X.w) X.A X.xe none (EP X pins σ Q) (.ref D) (compEnvC scope (cellsFrom (s3.heap.objs.size + 1) scope.names (cloFrom X.env.cells scope.names [])) s3.heap.objs.size X.env)) { s3 with heap := pushCells (s3.heap.push { cls := .type "dict", data := .dict #[] }) scope.names }
  have nfp : ∀ b ∈ fp, (upd H2 D (.lst [])) b = none := fun b hb => (f3 b hb).1.1
  generalize hce : compEnvC scope (cellsFrom (s3.heap.objs.size + 1) scope.names (cloFrom X.env.cells scope.names [])) s3.heap.objs.size X.env = ce at I4 pg pt pe hxe ⊢
  have cL : ce.locals = s3.heap.objs.size := by subst hce; rfl
  generalize hH3 : upd H2 D (.lst []) = H3 at I3 I4 pg pt pe w0 nfp f3
  generalize hs4 : ({ s3 with heap := pushCells (s3.heap.push { cls := .type "dict", data := .dict #[] }) scope.names } : Shared) = s4 at I4 ⊢
  have st4 : tn 0 s4.heap := T.keep _ _ _ st3 fun b _ o e => by rw [← hs4]; exact pushCells_keeps _ _ _ _ (Heap.get?_push_of_some _ e)
  have stat : ∀ {σ' : St} {H' : Hp} {s' : Shared}, Inv (X.blkx s3 H3 scope ce fp xe) [] σ' H' s' → (∀ b ∈ fp, H' b = none) → ∀ b ∈ fp, FpOk (X.blkx s3 H3 scope ce fp xe) [] H' b := fun {σ' H' s'} I' hn b hb =>
    ⟨hn b hb, (I'.ok.exf b hb).1, I'.ok.exfs b hb, .inl hb, fun x c e => (I'.ok.exf b hb).2 x c e, fun p hp => absurd (show p ∈ ([] : List (Addr × Obj)) ++ [] from hp) (by simp)⟩
  have loop : codeAny (model X.prog X.w) X.A (.compLoop (.ListComp elt [⟨tg, iter, ifs, 0⟩] scope pos) 0 (.ref it) (.ref D) ce) (compEnds (model X.prog X.w) X.A X.xe none (EP X pins σ Q) (.ref D) ce) s4 := by
    rw [show (compEnds (model X.prog X.w) X.A X.xe none (EP X pins σ Q) (.ref D) ce) = (compEnds (model X.prog X.w) X.A X.xe none (EP X pins σ Q) (.ref D) ce) from rfl]
    refine compLoop_any (fun n s' => ∃ i H', Inv (X.blkx s3 H3 scope ce fp xe) [] (wipe σ (own.map (·.2))) H' s' ∧ tn i s'.heap ∧ (∀ b ∈ fp, H' b = none) ∧ W i n H') ?_ m0 ⟨0, H3, I4, st4, nfp, w0⟩
    rw [← hxe]
    rintro n s5 ⟨i, H5, I5, st5, n5, w5⟩
    rcases turn i n H5 w5 with ⟨stop, qq⟩ | ⟨go, Nx, hNx, step⟩
    · have td := T.done (X.blkx s3 H3 scope ce fp xe) rfl rfl rfl hc i [] s5 _ H5 (fun _ _ => False) I5 (stat I5 n5) st5 stop
      refine thnF td fun r s6 ⟨hr, I6⟩ => ?_
      subst hr
      -- back in the def's context
      have I7 : Inv X pins σ H5 s6 := I3.call' (ch := fp) I6.os I6.base I6.hok I6.bare fun b hb => ⟨(f3 b hb).1.2.2.2.1, (f3 b hb).1.2.1, (f3 b hb).1.2.2.2.2.1, (f3 b hb).1.2.2.2.2.2⟩
      have nC : H5 s3.heap.objs.size = none := by
        have z : H5 ce.locals = none := I6.free
        rw [cL] at z
        exact z
      obtain ⟨m, hn, _⟩ := I6.loc
      have hn : s6.heap.Ns ce.locals m := hn
      rw [cL] at hn
      obtain ⟨f0, f1, f2, f3, f4, f5⟩ := I3.fpOk (Nat.le_refl _) nC
      refine ⟨m, by rw [cL]; exact hn, fun h'' sb => ?_⟩
      exact ⟨.ref D, H5, I7.turned (t' := s6.toks) (it := s3.heap.objs.size) (fun b o hb e => (sb.2 b (by rw [cL]; exact hb)).trans e) f0 f1 f3 f4 f5, rfl, qq⟩
    · have ti := T.item (X.blkx s3 H3 scope ce fp xe) rfl rfl rfl hc i [] s5 _ H5 (fun _ _ => False) I5 (stat I5 n5) st5 go
      refine thnF ti fun r s6 ⟨u, hr, h6⟩ => ?_
      subst hr
      refine thnF h6 fun _ s7 ⟨x, H7, I7, r7, y7, st7, n7⟩ => ?_
      have I7' := I7.pinned (stat I7 n7) (T.obj _ _ st7)
      refine thn (pg.run _ s7 _ H7 x u _ I7' r7 (step x H7 y7)) fun _ s8 ⟨σ8, H8, I8, hw8, q8⟩ => ?_
      refine thn (pt.run _ s8 σ8 H8 _ I8 q8) fun b s9 ⟨H9, I9, q9⟩ => ?_
      -- the turn's end
      have fin : ∀ {s' : Shared} {H' : Hp}, Inv (X.blkx s3 H3 scope ce fp xe) ([] ++ pinsAt fp s7.heap) σ8 H' s' → Nx H' → ∃ m, m < n ∧ ∃ i H', Inv (X.blkx s3 H3 scope ce fp xe) [] (wipe σ (own.map (·.2))) H' s' ∧ tn i s'.heap ∧ (∀ b ∈ fp, H' b = none) ∧ W i m H' := fun {s' H'} I' nx => by
        obtain ⟨m', hm, w'⟩ := hNx H' nx
        have pin' : ∀ b ∈ fp, ∀ o, s7.heap.get? b = some o → s'.heap.get? b = some o ∧ H' b = none := fun b hb o e =>
          let z := I'.pin (b, o) (List.mem_append_right _ (List.mem_append_right _ (mem_pinsAt hb e)))
          ⟨z.1, z.2.1⟩
        have hl : (wipe σ (own.map (·.2))).length = σ8.length := by rw [← hw8, wipe_length]
        refine ⟨m', hm, i + 1, H', (I'.unpinned (pins := [])).weak hl (fun j v e => ?_), T.keep _ _ _ st7 fun b hb o e => (pin' b hb o e).1, fun b hb => ?_, w'⟩
        · rw [← hw8] at e
          exact (wipe_some e).1
        · obtain ⟨o, e, _⟩ := T.obj _ _ st7 b hb
          exact (pin' b hb o e).2
      cases b with
      | false =>
        simp only [Bool.false_eq_true, if_false] at q9 ⊢
        exact fin I9 q9
      | true =>
        simp only [if_true] at q9 ⊢
        refine thn (pe.run _ s9 σ8 H9 _ I9 q9) fun z s10 ⟨yv, H10, I10, r10, acc, hD10, hz10, nx⟩ => ?_
        exact app_ok (X := X.blkx s3 H3 scope ce fp xe) I10 hD10 hz10 r10 fun s11 I11 => fin I11 nx
  exact codeAny_compStart_list loop (T.self X.A 0 _ _ _ st4 loop)
end
end L2

end

section
set_option Elab.async false
set_option linter.all false
set_option maxRecDepth 100000
set_option maxHeartbeats 4000000
set_option autoImplicit false
/-! PfD6: comprehensions, and all expressions. -/
namespace PF
open PySem L2 PySem.Spec PyProof.Rows
section
variable {X : Cx} {A : Ad} {cl : Call} {G : Tab} {ar : Nat → Nat} {C : Cmp} {W : WX}
theorem g_sub (cx : CxE X A cl G ar C W) {o i : Expr} {co ci : E} {pos : Pos} (ho : PE X o (gE X A cl G W co)) (hi : PE X i (gE X A cl G W ci))
    (ha : ∀ v, assign (.Subscript o i pos) X.env v = (do
      let ov ← holding [v] (eval o X.env)
      let iv ← holding [v, ov] (eval i X.env)
      standAt pos
      holding [v, ov, iv] (setItem ov iv v)
      release [v, ov, iv] [])) : PG X (.Subscript o i pos) (tTg X.K A cl G (.sub co ci)) := by
  refine pg_w (pg_sub ho hi (set_all (A := A) (by have := cx.units; omega)) ha) fun v σ H Q h => ?_
  obtain ⟨ρ, st, sl, t, R, S, r, h⟩ := h
  unfold evTg at h
  have h := h.mono (fun _ _ q => q) (W' := fun k d H' => W k d σ H') fun _ _ _ z => False.elim z
  refine ⟨ρ, st, sl, R, S, h.seq fun t1 st1 v1 H1 ρ1 s1 R1 r1 h1 => ?_⟩
  refine ⟨ρ1, st1, sl, R1, S.step s1, h1.seq fun t2 st2 v2 H2 ρ2 s2 R2 r2 h2 => ?_⟩
  refine ⟨ρ2, st2, t1, t2, t, _, R2, r1.step s2, r2, (r.step s1).step s2, h2.seq fun _ st3 _ H3 ρ3 s3 R3 _ h3 => ?_⟩
  exact h3 σ H3 ρ3 .refl R3 ⟨((S.step s1).step s2).step s3, .refl⟩

/-! ### comprehensions -/
theorem c_none : PTs X [] (tCo X.K A cl G W .none) := pts_w pts_nil fun σ H Q h => by
  obtain ⟨ρ, st, sl, R, S, h⟩ := h
  unfold evC at h
  exact h true H ρ .refl R rfl
theorem c_some {e : Expr} {c : E} (he : PT X e (tTt X.K A cl G W c)) : PTs X [e] (tCo X.K A cl G W (.some c)) := pts_w (pts_one he) fun σ H Q h => by
  obtain ⟨ρ, st, sl, R, S, h⟩ := h
  unfold evC at h
  exact ⟨ρ, st, sl, R, S, h⟩
abbrev bodyL (cl : Call) (G : Tab) (tg : Tg) (c : Eo) (e : E) (own : List Nat) (sl : Sl) : T → Store → PF.R (Option T) := fun x st => (evTg cl G tg x (wipeL sl own) st).bind fun sl' st => (evC cl G c sl' st).bind fun b st =>
  if b then (evE cl G e sl' st).bind fun y st => .ok (some y) st else .ok none st
theorem noExc_ok {K : PySem.W.Frag} {ρ : List Addr} {H : Hp} {α β : Type} {rr : List Addr → Hp → β → α → Prop} {r : PF.R α} {Q : β → Hp → Prop} {W' : Value → Option Addr → Hp → Prop} (h : OkG K A rr ρ H r.noExc Q W') : OkG K A rr ρ H r Q (fun _ _ _ => False) := by
  cases r with
  | ok a st => exact h
  | exc x st => exact h.elim
  | stuck => exact h
theorem wipe_twice {σ σ2 : L2.St} {own l : List Nat} (h : Out l (wipe σ own) σ2) (hl : ∀ i ∈ l, i ∈ own) : wipe σ2 own = wipe σ own := by
  rw [h own hl]
  apply List.ext_getElem?
  intro q
  rw [wipe_get, wipe_get]
  by_cases hq : q ∈ own
  · rw [if_pos hq, if_pos hq, wipe_length]
  · simp [hq, wipe_get]
/-- the loop of a list comprehension; the list at D is not among the cells -/
theorem comp_loop {β γ : Type} {rs : List Addr → Hp → γ → β → Prop} {J : L2.It} {j : Itv} {own : List Nat} {tg : Tg} {c : Eo} {e : E} {σ : L2.St} {D : Addr} {ρ1 ρa : List Addr} {H1 Ha : Hp} {sl : Sl} {Q : γ → Hp → Prop} {F : List T → Store → PF.R β} {Fin : Hp → Prop}
    (hj : RJ X.K A ρa Ha J j) (S : RSl X.K A ρa Ha σ sl) (hsl : ∀ i ∈ tg.slots, i ∈ own) (hD : H1 D = none)
    (hfin : ∀ ρ st acc vs H, Step X.K ρ1 H1 ρ H → Kp X.K ρa Ha ρ H → Rel X.K A ρ H st → D ∉ ρ → H D = some (.lst vs) → RTs X.K A ρ H vs acc → OkG X.K A rs ρ1 H1 (F acc st) Q (fun _ _ _ => False) → Fin H)
    {ρ0 : List Addr} {H0 : Hp} {st0 : Store} {acc0 : List T} {vs0 : List V} {k : Nat} (s0 : Step X.K ρ1 H1 ρ0 H0) (k0 : Kp X.K ρa Ha ρ0 H0) (R0 : Rel X.K A ρ0 H0 st0) (n0 : D ∉ ρ0) (g0 : H0 D = some (.lst vs0)) (r0 : RTs X.K A ρ0 H0 vs0 acc0)
    (h : OkG X.K A rs ρ1 H1 ((compL j (bodyL cl G tg c e own sl) k 0 acc0 st0).bind F) Q (fun _ _ _ => False)) :
    ∃ Wn : Nat → Nat → Hp → Prop, (∃ m, Wn 0 m H0) ∧ ∀ i m H, Wn i m H →
      (J.stop i H ∧ Fin H) ∨ (J.go i H ∧ ∃ Nx : Hp → Prop, (∀ H', Nx H' → ∃ m', m' < m ∧ Wn (i + 1) m' H') ∧ ∀ x H', J.yld i H x H' → tTg X.K A cl G tg x (wipe σ own) H' fun σ2 H2 => wipe σ2 own = wipe σ own ∧ tCo X.K A cl G WF0 c σ2 H2 fun b H3 =>
        if b = true then tE X.K A cl G WF0 e σ2 H3 fun y H4 => ∃ acc, H4 D = some (.lst acc) ∧ acc.length < sizeLine ∧ Nx (upd H4 D (.lst (acc ++ [y]))) else Nx H3) := by
  refine ⟨fun i m H => ∃ ρ st acc vs, Step X.K ρ1 H1 ρ H ∧ Kp X.K ρa Ha ρ H ∧ Rel X.K A ρ H st ∧ D ∉ ρ ∧ H D = some (.lst vs) ∧ RTs X.K A ρ H vs acc ∧ OkG X.K A rs ρ1 H1 ((compL j (bodyL cl G tg c e own sl) m i acc st).bind F) Q (fun _ _ _ => False), ⟨k, ρ0, st0, acc0, vs0, s0, k0, R0, n0, g0, r0, h⟩, ?_⟩
  rintro i m H ⟨ρ, st, acc, vs, s, kp, R, np, g, q, h⟩
  obtain ⟨hstop, hgo⟩ := hj ρ H st kp R
  cases m with
  | zero =>
    unfold compL at h
    split at h
    · rename_i e0
      exact .inl ⟨hstop i e0, hfin ρ st acc vs H s kp R np g q h⟩
    · exact h.elim
  | succ m =>
    unfold compL at h
    split at h
    · rename_i t et
      obtain ⟨g1, g2⟩ := hgo i t et
      refine .inr ⟨g1, fun H' => ∃ ρ st acc vs, Step X.K ρ1 H1 ρ H' ∧ Kp X.K ρa Ha ρ H' ∧ Rel X.K A ρ H' st ∧ D ∉ ρ ∧ H' D = some (.lst vs) ∧ RTs X.K A ρ H' vs acc ∧ OkG X.K A rs ρ1 H1 ((compL j (bodyL cl G tg c e own sl) m (i + 1) acc st).bind F) Q (fun _ _ _ => False), fun H' q => ⟨m, Nat.lt_succ_self _, q⟩, fun x H' y => ?_⟩
      obtain ⟨sy, Ry, rx⟩ := g2 x H' y
      simp only [bodyL, PF.R.bind_assoc] at h
      refine ⟨ρ, st, wipeL sl own, t, Ry, (S.kp (kp.trans sy.toKp)).wipe own, rx, h.seqO (s.trans sy) fun sl2 st2 σ2 H2 ρ2 s2 R2 r2 h2 => ?_⟩
      refine ⟨wipe_twice r2.2 hsl, ρ2, st2, sl2, R2, r2.1, h2.seqO ((s.trans sy).trans s2) fun b st3 b' H3 ρ3 s3 R3 eb h3 => ?_⟩
      subst eb
      have s03 : Step X.K ρ H ρ3 H3 := sy.trans (s2.trans s3)
      cases b' with
      | false =>
        rw [if_neg Bool.false_ne_true]
        rw [if_neg Bool.false_ne_true, PF.R.bind_ok] at h3
        exact ⟨ρ3, st3, acc, vs, s.trans s03, kp.trans s03.toKp, R3, s03.out g np, s03.fr _ _ g np, q.step s03, h3⟩
      | true =>
        rw [if_pos rfl]
        rw [if_pos rfl] at h3
        simp only [PF.R.bind_assoc] at h3
        refine ⟨ρ3, st3, sl2, R3, r2.1.step s3, h3.seqO (s.trans s03) fun u st4 y4 H4 ρ4 s4 R4 r4 h4 => ?_⟩
        rw [PF.R.bind_ok] at h4
        have s04 := s03.trans s4
        have g4 := s04.fr _ _ g np
        have q4 := q.step s04
        simp only at h4
        split at h4
        · rename_i c4
          refine ⟨vs, g4, by rw [q4.length]; exact c4, ρ4, st4, acc ++ [u], vs ++ [y4], (s.trans s04).off hD, (kp.trans s04.toKp).off g4 True.intro, R4.off (s04.out g np) g4 True.intro, s04.out g np, upd_same, (q4.off g4 True.intro).append (.cons (r4.off g4 True.intro) .nil), h4⟩
        · exact h4.elim
    · exact h.elim
theorem blkE (cx : CxE X A cl G ar C W) {scope : Scope} (s : Shared) (H : Hp) (Cc : Addr) (cls : List (Str × Addr)) (fp : List Addr) :
    CxE (X.blk s H scope (compEnvC scope cls Cc X.env) fp) A cl G ar { C with sc := relS scope C.sc, fnB := fun x => scope.names.lookup x == some .cell, top := false } WF0 :=
  ⟨cx.calm, cx.N, cx.nd, by rw [← cx.sc]; rfl, rfl, cx.units, takes0, (fun z => nomatch z), cx.blt, cx.fns, cx.art, cx.cst, cx.cls, cx.own, cx.mak⟩
theorem e_comp (cx : CxE X A cl G ar C W) {m : Bool} {cit : PF.It} {ctg : Tg} {cc : Eo} {ce : E} {own : List Nat} (hsl : ∀ i ∈ ctg.slots, i ∈ own) :
    ∀ σ H Q Q2, (∀ x H', Fz Q x H' → Q2 x H') → gE X A cl G W (.comp m ctg cit cc ce own) σ H Q → tLc (tIt X.K A cl G W cit) (tTg X.K A cl G ctg) (tCo X.K A cl G WF0 cc) (tE X.K A cl G WF0 ce) own σ H Q2 := by
  intro σ H Q Q2 hq2 h
  obtain ⟨ρ, st, sl, R, S, h⟩ := h
  unfold evE at h
  refine ⟨ρ, st, sl, R, S, h.seq fun j st1 J H1 ρ1 s1 R1 rj h1 D hD => ?_⟩
  split at h1
  · rename_i k ek
    have h1 := noExc_ok h1
    have sD : Step X.K ρ1 H1 ρ1 (upd H1 D (.lst [])) := Step.new hD
    exact comp_loop (own := own) (k := k) rj (S.step s1) hsl hD (fun ρ st acc vs H s _ R np g r h => hq2 _ _ (OkG.made hD s np g R r h)) sD sD.toKp (R1.new hD) (R1.fresh hD) upd_same .nil h1
  · exact h1.elim
/-! ### .. that an exception may leave -/
abbrev bodyX (cl : Call) (G : Tab) (tg : Tg) (c : Eo) (e : E) (own : List Nat) (sl : Sl) : T → Store → PF.R (Option T) := fun x st => (evTg cl G tg x (wipeL sl own) st).noExc.bind fun sl' st => (evC cl G c sl' st).bind fun b st =>
  if b then (evE cl G e sl' st).bind fun y st => .ok (some y) st else .ok none st
/-- the wish of the block: the slots around -/
abbrev Wb (W : WX) (σ : L2.St) : WX := fun k d _ H => W k d σ H
theorem noExc_bind {K : PySem.W.Frag} {ρ ρ1 : List Addr} {H H1 : Hp} {α β γ δ : Type} {rr : List Addr → Hp → β → α → Prop} {rs : List Addr → Hp → δ → γ → Prop} {r : PF.R α} {f : α → Store → PF.R γ} {Q1 : β → Hp → Prop} {Q : δ → Hp → Prop} {W' : Value → Option Addr → Hp → Prop}
    (h : OkG K A rs ρ1 H1 (r.noExc.bind f) Q W') (s : Step K ρ1 H1 ρ H)
    (hk : ∀ a st b H' ρ', Step K ρ H ρ' H' → Rel K A ρ' H' st → rr ρ' H' b a → OkG K A rs ρ1 H1 (f a st) Q W' → Q1 b H') : OkG K A rr ρ H r Q1 (fun _ _ _ => False) := by
  cases r with
  | ok a st => exact fun b H' ρ' s' R' r' => hk a st b H' ρ' s' R' r' h
  | exc x st => exact h.elim
  | stuck => exact h.elim
theorem comp_loopx {W : WX} {Q : V → Hp → Prop} {J : L2.It} {j : Itv} {own : List Nat} {tg : Tg} {c : Eo} {e : E} {σ : L2.St} {D : Addr} {ρ1 : List Addr} {H1 : Hp} {sl : Sl} {Fin : Hp → Prop}
    (hj : RJ X.K A ρ1 H1 J j) (S : RSl X.K A ρ1 H1 σ sl) (hsl : ∀ i ∈ tg.slots, i ∈ own) (hD : H1 D = none)
    (hfin : ∀ ρ st acc vs H, Step X.K ρ1 H1 ρ H → Rel X.K A ρ H st → D ∉ ρ → H D = some (.lst vs) → RTs X.K A ρ H vs acc → OkG X.K A (RT X.K A) ρ1 H1 (.ok (.rol acc) st) Q (fun k d H' => W k d σ H') → Fin H)
    {ρ0 : List Addr} {H0 : Hp} {st0 : Store} {acc0 : List T} {vs0 : List V} {k : Nat} (s0 : Step X.K ρ1 H1 ρ0 H0) (R0 : Rel X.K A ρ0 H0 st0) (n0 : D ∉ ρ0) (g0 : H0 D = some (.lst vs0)) (r0 : RTs X.K A ρ0 H0 vs0 acc0)
    (h : OkG X.K A (RT X.K A) ρ1 H1 ((compL j (bodyX cl G tg c e own sl) k 0 acc0 st0).bind fun xs st => .ok (.rol xs) st) Q (fun k d H' => W k d σ H')) :
    ∃ Wn : Nat → Nat → Hp → Prop, (∃ m, Wn 0 m H0) ∧ ∀ i m H, Wn i m H →
      (J.stop i H ∧ Fin H) ∨ (J.go i H ∧ ∃ Nx : Hp → Prop, (∀ H', Nx H' → ∃ m', m' < m ∧ Wn (i + 1) m' H') ∧ ∀ x H', J.yld i H x H' → tTg X.K A cl G tg x (wipe σ own) H' fun σ2 H2 => wipe σ2 own = wipe σ own ∧ tCo X.K A cl G (Wb W σ) c σ2 H2 fun b H3 =>
        if b = true then tE X.K A cl G (Wb W σ) e σ2 H3 fun y H4 => ∃ acc, H4 D = some (.lst acc) ∧ acc.length < sizeLine ∧ Nx (upd H4 D (.lst (acc ++ [y]))) else Nx H3) := by
  refine ⟨fun i m H => ∃ ρ st acc vs, Step X.K ρ1 H1 ρ H ∧ Rel X.K A ρ H st ∧ D ∉ ρ ∧ H D = some (.lst vs) ∧ RTs X.K A ρ H vs acc ∧ OkG X.K A (RT X.K A) ρ1 H1 ((compL j (bodyX cl G tg c e own sl) m i acc st).bind fun xs st => .ok (.rol xs) st) Q (fun k d H' => W k d σ H'), ⟨k, ρ0, st0, acc0, vs0, s0, R0, n0, g0, r0, h⟩, ?_⟩
  rintro i m H ⟨ρ, st, acc, vs, s, R, np, g, q, h⟩
  obtain ⟨hstop, hgo⟩ := hj ρ H st s.toKp R
  cases m with
  | zero =>
    unfold compL at h
    split at h
    · rename_i e0
      exact .inl ⟨hstop i e0, hfin ρ st acc vs H s R np g q h⟩
    · exact h.elim
  | succ m =>
    unfold compL at h
    split at h
    · rename_i t et
      obtain ⟨g1, g2⟩ := hgo i t et
      refine .inr ⟨g1, fun H' => ∃ ρ st acc vs, Step X.K ρ1 H1 ρ H' ∧ Rel X.K A ρ H' st ∧ D ∉ ρ ∧ H' D = some (.lst vs) ∧ RTs X.K A ρ H' vs acc ∧ OkG X.K A (RT X.K A) ρ1 H1 ((compL j (bodyX cl G tg c e own sl) m (i + 1) acc st).bind fun xs st => .ok (.rol xs) st) Q (fun k d H' => W k d σ H'), fun H' q => ⟨m, Nat.lt_succ_self _, q⟩, fun x H' y => ?_⟩
      obtain ⟨sy, Ry, rx⟩ := g2 x H' y
      simp only [bodyX, PF.R.bind_assoc] at h
      refine ⟨ρ, st, wipeL sl own, t, Ry, (S.kp (s.toKp.trans sy.toKp)).wipe own, rx, noExc_bind h (s.trans sy) fun sl2 st2 σ2 H2 ρ2 s2 R2 r2 h2 => ?_⟩
      refine ⟨wipe_twice r2.2 hsl, ρ2, st2, sl2, R2, r2.1, h2.seqO ((s.trans sy).trans s2) fun b st3 b' H3 ρ3 s3 R3 eb h3 => ?_⟩
      subst eb
      have s03 : Step X.K ρ H ρ3 H3 := sy.trans (s2.trans s3)
      cases b' with
      | false =>
        rw [if_neg Bool.false_ne_true]
        rw [if_neg Bool.false_ne_true, PF.R.bind_ok] at h3
        exact ⟨ρ3, st3, acc, vs, s.trans s03, R3, s03.out g np, s03.fr _ _ g np, q.step s03, h3⟩
      | true =>
        rw [if_pos rfl]
        rw [if_pos rfl] at h3
        simp only [PF.R.bind_assoc] at h3
        refine ⟨ρ3, st3, sl2, R3, r2.1.step s3, h3.seqO (s.trans s03) fun u st4 y4 H4 ρ4 s4 R4 r4 h4 => ?_⟩
        rw [PF.R.bind_ok] at h4
        have s04 := s03.trans s4
        have g4 := s04.fr _ _ g np
        have q4 := q.step s04
        simp only at h4
        split at h4
        · rename_i c4
          refine ⟨vs, g4, by rw [q4.length]; exact c4, ρ4, st4, acc ++ [u], vs ++ [y4], (s.trans s04).off hD, R4.off (s04.out g np) g4 True.intro, s04.out g np, upd_same, (q4.off g4 True.intro).append (.cons (r4.off g4 True.intro) .nil), h4⟩
        · exact h4.elim
    · exact h.elim
theorem e_compx (cx : CxE X A cl G ar C W) {cit : PF.It} {ctg : Tg} {cc : Eo} {ce : E} {own : List Nat} (hsl : ∀ i ∈ ctg.slots, i ∈ own) :
    ∀ σ H Q Q2, (∀ x H', Fz Q x H' → Q2 x H') → gE X A cl G W (.compx ctg cit cc ce own) σ H Q → tLcx (tIt X.K A cl G W cit) (tTg X.K A cl G ctg) (fun σ => tCo X.K A cl G (Wb W σ) cc) (fun σ => tE X.K A cl G (Wb W σ) ce) own σ H Q2 := by
  intro σ H Q Q2 hq2 h
  obtain ⟨ρ, st, sl, R, S, h⟩ := h
  unfold evE at h
  refine ⟨ρ, st, sl, R, S, h.seq fun j st1 J H1 ρ1 s1 R1 rj h1 D hD => ?_⟩
  split at h1
  · rename_i k ek
    have sD : Step X.K ρ1 H1 ρ1 (upd H1 D (.lst [])) := Step.new hD
    exact comp_loopx (W := W) (own := own) (k := k) rj (S.step s1) hsl hD (fun ρ st acc vs H s R np g r h => hq2 _ _ (OkG.made (m := false) hD s np g R r h)) sD (R1.new hD) (R1.fresh hD) upd_same .nil h1
  · exact h1.elim
theorem blkX (cx : CxE X A cl G ar C W) {scope : Scope} (s : Shared) (H : Hp) (Cc : Addr) (cls : List (Str × Addr)) (fp : List Addr) (xe : Value → Shared → Prop) (σ : L2.St) (tk : Takes (X.blkx s H scope (compEnvC scope cls Cc X.env) fp xe) (Wb W σ)) :
    CxE (X.blkx s H scope (compEnvC scope cls Cc X.env) fp xe) A cl G ar { C with sc := relS scope C.sc, fnB := fun x => scope.names.lookup x == some .cell, top := false } (Wb W σ) :=
  ⟨cx.calm, cx.N, cx.nd, by rw [← cx.sc]; rfl, rfl, cx.units, tk, (fun z => nomatch z), cx.blt, cx.fns, cx.art, cx.cst, cx.cls, cx.own, cx.mak⟩
/-- two clauses -/
theorem e_comp2 (cx : CxE X A cl G ar C W) {m : Bool} {cit cit1 : PF.It} {ctg ctg1 : Tg} {cc cc1 : Eo} {ce : E} {own own1 : List Nat} (hsl : ∀ i ∈ ctg.slots, i ∈ own) (hsl1 : ∀ i ∈ ctg1.slots, i ∈ own1) :
    ∀ σ H Q Q2, (∀ x H', Fz Q x H' → Q2 x H') → gE X A cl G W (.comp2 m ctg cit cc ctg1 cit1 cc1 ce own own1) σ H Q →
      tLc2 (tIt X.K A cl G W cit) (tTg X.K A cl G ctg) (tCo X.K A cl G WF0 cc) (tIt X.K A cl G WF0 cit1) (tTg X.K A cl G ctg1) (tCo X.K A cl G WF0 cc1) (tE X.K A cl G WF0 ce) own own1 σ H Q2 := by
  intro σ H Q Q2 hq2 h
  obtain ⟨ρ, st, sl, R, S, h⟩ := h
  unfold evE at h
  refine ⟨ρ, st, sl, R, S, h.seq fun j st1 J H1 ρ1 s1 R1 rj h1 D hD => ?_⟩
  split at h1
  · rename_i k ek
    have h1 := noExc_ok h1
    have S1 := S.step s1
    have sD : Step X.K ρ1 H1 ρ1 (upd H1 D (.lst [])) := Step.new hD
    generalize hb : (fun (x : T) (acc : List T) (st : Store) => (evTg cl G ctg x (wipeL sl own) st).bind fun sl' st => (evC cl G cc sl' st).bind fun b st =>
        if b then (evIt cl G cit1 sl' st).bind fun J1 st => match J1.len st with
          | some k1 => compL J1 (fun x st => (evTg cl G ctg1 x (wipeL sl' own1) st).bind fun sl'' st => (evC cl G cc1 sl'' st).bind fun b st =>
              if b then (evE cl G ce sl'' st).bind fun y st => .ok (some y) st else .ok none st) k1 0 acc st
          | none => .stuck
        else .ok acc st) = body at h1
    refine ⟨fun i m' H => ∃ ρ st acc vs, Step X.K ρ1 H1 ρ H ∧ Rel X.K A ρ H st ∧ D ∉ ρ ∧ H D = some (.lst vs) ∧ RTs X.K A ρ H vs acc ∧ OkG X.K A (RT X.K A) ρ1 H1 ((compN j body m' i acc st).bind fun xs st => newL m xs st) Q (fun _ _ _ => False), ⟨k, ρ1, st1, [], [], sD, R1.new hD, R1.fresh hD, upd_same, .nil, h1⟩, ?_⟩
    rintro i m' H ⟨ρ, st, acc, vs, s, R, np, g, q, h⟩
    obtain ⟨hstop, hgo⟩ := rj ρ H st s.toKp R
    cases m' with
    | zero =>
      unfold compN at h
      split at h
      · rename_i e0
        exact .inl ⟨hstop i e0, hq2 _ _ (OkG.made hD s np g R q h)⟩
      · exact h.elim
    | succ m' =>
      unfold compN at h
      split at h
      · rename_i t et
        obtain ⟨g1, g2⟩ := hgo i t et
        refine .inr ⟨g1, fun H' => ∃ ρ st acc vs, Step X.K ρ1 H1 ρ H' ∧ Rel X.K A ρ H' st ∧ D ∉ ρ ∧ H' D = some (.lst vs) ∧ RTs X.K A ρ H' vs acc ∧ OkG X.K A (RT X.K A) ρ1 H1 ((compN j body m' (i + 1) acc st).bind fun xs st => newL m xs st) Q (fun _ _ _ => False), fun H' q => ⟨m', Nat.lt_succ_self _, q⟩, fun x H' y => ?_⟩
        obtain ⟨sy, Ry, rx⟩ := g2 x H' y
        have eb : ∀ x acc st, body x acc st = (evTg cl G ctg x (wipeL sl own) st).bind fun sl' st => (evC cl G cc sl' st).bind fun b st =>
          if b then (evIt cl G cit1 sl' st).bind fun J1 st => match J1.len st with
            | some k1 => compL J1 (bodyL cl G ctg1 cc1 ce own1 sl') k1 0 acc st
            | none => .stuck
          else .ok acc st := fun x acc st => by rw [← hb]
        rw [eb] at h
        simp only [PF.R.bind_assoc] at h
        refine ⟨ρ, st, wipeL sl own, t, Ry, (S1.kp (s.trans sy).toKp).wipe own, rx, h.seqO (s.trans sy) fun sl2 st2 σ2 H2 ρ2 s2 R2 r2 h2 => ?_⟩
        refine ⟨wipe_twice r2.2 hsl, ρ2, st2, sl2, R2, r2.1, h2.seqO ((s.trans sy).trans s2) fun b st3 b' H3 ρ3 s3 R3 eb' h3 => ?_⟩
        subst eb'
        have s03 : Step X.K ρ H ρ3 H3 := sy.trans (s2.trans s3)
        cases b' with
        | false =>
          rw [if_neg Bool.false_ne_true]
          rw [if_neg Bool.false_ne_true, PF.R.bind_ok] at h3
          exact ⟨ρ3, st3, acc, vs, s.trans s03, R3, s03.out g np, s03.fr _ _ g np, q.step s03, h3⟩
        | true =>
          rw [if_pos rfl]
          rw [if_pos rfl] at h3
          simp only [PF.R.bind_assoc] at h3
          refine ⟨ρ3, st3, sl2, R3, r2.1.step s3, h3.seqO (s.trans s03) fun j1 st4 J1 H4 ρ4 s4 R4 rj1 h4 => ?_⟩
          have s04 := s03.trans s4
          split at h4
          · rename_i k1 ek1
            refine comp_loop (own := own1) (k := k1) (Fin := fun H' => ∃ ρ st acc vs, Step X.K ρ1 H1 ρ H' ∧ Rel X.K A ρ H' st ∧ D ∉ ρ ∧ H' D = some (.lst vs) ∧ RTs X.K A ρ H' vs acc ∧ OkG X.K A (RT X.K A) ρ1 H1 ((compN j body m' (i + 1) acc st).bind fun xs st => newL m xs st) Q (fun _ _ _ => False))
              rj1 ((r2.1.step s3).step s4) hsl1 hD ?_ (s.trans s04) .refl R4 (s04.out g np) (s04.fr _ _ g np) (q.step s04) h4
            exact fun ρ st acc vs H s _ R np g r h => ⟨ρ, st, acc, vs, s, R, np, g, r, h⟩
          · exact h4.elim
      · exact h.elim
  · exact h1.elim
/-- a dict's comprehension -/
theorem e_dcomp (cx : CxE X A cl G ar C W) {m : Bool} {cit : PF.It} {ctg : Tg} {cc : Eo} {ck cv : E} {own : List Nat} (hsl : ∀ i ∈ ctg.slots, i ∈ own) :
    ∀ σ H Q Q2, (∀ x H', Fz Q x H' → Q2 x H') → gE X A cl G W (.dcomp m ctg cit cc ck cv own) σ H Q → tDc (tIt X.K A cl G W cit) (tTg X.K A cl G ctg) (tCo X.K A cl G WF0 cc) (tE X.K A cl G WF0 ck) (tE X.K A cl G WF0 cv) own σ H Q2 := by
  intro σ H Q Q2 hq2 h
  obtain ⟨ρ, st, sl, R, S, h⟩ := h
  unfold evE at h
  refine ⟨ρ, st, sl, R, S, h.seq fun j st1 J H1 ρ1 s1 R1 rj h1 D hD => ?_⟩
  split at h1
  · rename_i k ek
    have h1 := noExc_ok h1
    have S1 := S.step s1
    have sD : Step X.K ρ1 H1 ρ1 (upd H1 D (.dK [])) := Step.new hD
    generalize hb : (fun (x : T) (st : Store) => (evTg cl G ctg x (wipeL sl own) st).bind fun sl' st => (evC cl G cc sl' st).bind fun b st =>
        if b then (evE cl G ck sl' st).bind fun y st => (evE cl G cv sl' st).bind fun z st => PF.R.ok (some (y, z)) st else .ok none st) = body at h1
    refine ⟨fun i m' H => ∃ ρ st acc ks, Step X.K ρ1 H1 ρ H ∧ Rel X.K A ρ H st ∧ D ∉ ρ ∧ H D = some (.dK ks) ∧ RKs X.K A ρ H ks acc ∧ OkG X.K A (RT X.K A) ρ1 H1 ((compD j body m' i acc st).bind fun xs st => newD m xs st) Q (fun _ _ _ => False), ⟨k, ρ1, st1, [], [], sD, R1.new hD, R1.fresh hD, upd_same, .nil, h1⟩, ?_⟩
    rintro i m' H ⟨ρ, st, acc, ks, s, R, np, g, q, h⟩
    obtain ⟨hstop, hgo⟩ := rj ρ H st s.toKp R
    cases m' with
    | zero =>
      unfold compD at h
      split at h
      · rename_i e0
        exact .inl ⟨hstop i e0, hq2 _ _ (OkG.madeD hD s np g R q h)⟩
      · exact h.elim
    | succ m' =>
      unfold compD at h
      split at h
      · rename_i t et
        obtain ⟨g1, g2⟩ := hgo i t et
        refine .inr ⟨g1, fun H' => ∃ ρ st acc ks, Step X.K ρ1 H1 ρ H' ∧ Rel X.K A ρ H' st ∧ D ∉ ρ ∧ H' D = some (.dK ks) ∧ RKs X.K A ρ H' ks acc ∧ OkG X.K A (RT X.K A) ρ1 H1 ((compD j body m' (i + 1) acc st).bind fun xs st => newD m xs st) Q (fun _ _ _ => False), fun H' q => ⟨m', Nat.lt_succ_self _, q⟩, fun x H' y => ?_⟩
        obtain ⟨sy, Ry, rx⟩ := g2 x H' y
        have eb : ∀ x st, body x st = (evTg cl G ctg x (wipeL sl own) st).bind fun sl' st => (evC cl G cc sl' st).bind fun b st =>
          if b then (evE cl G ck sl' st).bind fun y st => (evE cl G cv sl' st).bind fun z st => PF.R.ok (some (y, z)) st else .ok none st := fun x st => by rw [← hb]
        rw [eb] at h
        simp only [PF.R.bind_assoc] at h
        refine ⟨ρ, st, wipeL sl own, t, Ry, (S1.kp (s.trans sy).toKp).wipe own, rx, h.seqO (s.trans sy) fun sl2 st2 σ2 H2 ρ2 s2 R2 r2 h2 => ?_⟩
        refine ⟨wipe_twice r2.2 hsl, ρ2, st2, sl2, R2, r2.1, h2.seqO ((s.trans sy).trans s2) fun b st3 b' H3 ρ3 s3 R3 eb' h3 => ?_⟩
        subst eb'
        have s03 : Step X.K ρ H ρ3 H3 := sy.trans (s2.trans s3)
        cases b' with
        | false =>
          rw [if_neg Bool.false_ne_true]
          rw [if_neg Bool.false_ne_true, PF.R.bind_ok] at h3
          exact ⟨ρ3, st3, acc, ks, s.trans s03, R3, s03.out g np, s03.fr _ _ g np, q.step s03, h3⟩
        | true =>
          rw [if_pos rfl]
          rw [if_pos rfl] at h3
          simp only [PF.R.bind_assoc] at h3
          refine ⟨ρ3, st3, sl2, R3, r2.1.step s3, h3.seqO (s.trans s03) fun u st4 y4 H4 ρ4 s4 R4 r4 h4 => ?_⟩
          refine ⟨ρ4, st4, sl2, R4, (r2.1.step s3).step s4, h4.seqO ((s.trans s03).trans s4) fun w st5 z5 H5 ρ5 s5 R5 r5 h5 => ?_⟩
          rw [PF.R.bind_ok] at h5
          have s05 := (s03.trans s4).trans s5
          have g5 := s05.fr _ _ g np
          have q5 := q.step s05
          simp only at h5
          split at h5
          · rename_i c5
            obtain ⟨kk, rfl⟩ := key_of_T r4 c5.2
            refine ⟨ks, kk, rfl, g5, by rw [q5.length]; exact c5.1, ρ5, st5, dPut u w acc, putK ks kk z5, (s.trans s05).off hD, R5.off (s05.out g np) g5 True.intro, s05.out g np, upd_same, dPut_rel ((r4.step s5).off g5 True.intro) (r5.off g5 True.intro) (q5.off g5 True.intro), h5⟩
          · exact h5.elim
      · exact h.elim
  · exact h1.elim
theorem fold_of {n : Nat} {C : Cmp} {e tg : Expr} {c : PF.It} (h : compIt n C e tg = some c) (env : PySem.Env) (x : Value) : foldedSetIterable e env x = pure x := by
  cases n with
  | zero => simp [compIt] at h
  | succ n =>
    cases e <;> first | rfl | skip
    simp only [compIt] at h
    cases n with
    | zero => simp [compE] at h
    | succ n => simp [compE] at h

/-! ### all expressions -/
structure AllE (n : Nat) : Prop where
  ex : ∀ {C : Cmp} {e : Expr} {c : E}, compE n C e = some c → ∀ {X : Cx} {A : Ad} {cl : Call} {G : Tab} {ar : Nat → Nat} {W : WX}, CxE X A cl G ar C W → PE X e (gE X A cl G W c) ∧ PT X e (tTt X.K A cl G W c)
  bl : ∀ {C : Cmp} {op : BoolOp} {es : List Expr} {pos : Pos} {c : E}, compE n C (.BoolOp op es pos) = some c → ∀ {X : Cx} {A : Ad} {cl : Call} {G : Tab} {ar : Nat → Nat} {W : WX}, CxE X A cl G ar C W → PW X (.BoolOp op es pos) (tTt X.K A cl G W c)
  es : ∀ {C : Cmp} {es : List Expr} {c : Es}, compEs n C es = some c → ∀ {X : Cx} {A : Ad} {cl : Call} {G : Tab} {ar : Nat → Nat} {W : WX}, CxE X A cl G ar C W → PA X es (tEs X.K A cl G W c)
  kv : ∀ {C : Cmp} {ks : List (Option Expr)} {vs : List Expr} {c : KVs}, compKV n C ks vs = some c → ∀ {X : Cx} {A : Ad} {cl : Call} {G : Tab} {ar : Nat → Nat} {W : WX}, CxE X A cl G ar C W → ∀ pos, PPs X pos ks vs (trs X.K A cl G W c) ∧ ks.all (·.isSome) = true ∧ ks.length = vs.length ∧ (ks = [] → c = .nil)
  eo : ∀ {C : Cmp} {e : Option Expr} {c : Eo}, compEo n C e = some c → ∀ {X : Cx} {A : Ad} {cl : Call} {G : Tab} {ar : Nat → Nat} {W : WX}, CxE X A cl G ar C W → PO X e (tEo X.K A cl G W c)
  fs : ∀ {C : Cmp} {es : List Expr} {c : Eo}, compIfs n C es = some c → ∀ {X : Cx} {A : Ad} {cl : Call} {G : Tab} {ar : Nat → Nat} {W : WX}, CxE X A cl G ar C W → PTs X es (tCo X.K A cl G W c)
  it : ∀ {C : Cmp} {e tg : Expr} {c : PF.It}, compIt n C e tg = some c → ∀ {X : Cx} {A : Ad} {cl : Call} {G : Tab} {ar : Nat → Nat} {W : WX}, CxE X A cl G ar C W → PI X tg e (tIt X.K A cl G W c)
  tg : ∀ {C : Cmp} {e : Expr} {c : Tg}, compTg n C e = some c → ∀ {X : Cx} {A : Ad} {cl : Call} {G : Tab} {ar : Nat → Nat} {W : WX}, CxE X A cl G ar C W → PG X e (tTg X.K A cl G c)
  ts : ∀ {C : Cmp} {es : List Expr} {c : Tgs}, compTgs n C es = some c → ∀ {X : Cx} {A : Ad} {cl : Call} {G : Tab} {ar : Nat → Nat} {W : WX}, CxE X A cl G ar C W → PGs X es (tTgs X.K A cl G c) ∧ (assignEach es X.env).length = es.length ∧ (assignEach es X.env).findIdx? (·.1) = none ∧ c.len = es.length
end
end PF

end

section
set_option Elab.async false
set_option linter.all false
set_option maxRecDepth 100000
set_option maxHeartbeats 8000000
set_option autoImplicit false
/-! PfD7: every expression that is compiled is run as the code is. -/
namespace PF
open PySem L2 PySem.Spec PyProof.Rows
section
theorem both {X : Cx} {A : Ad} {cl : Call} {G : Tab} {W : WX} {e : Expr} {c : E} (q : PE X e (gE X A cl G W c)) (he : ∀ whole, PySem.isTrue e X.env whole = (do let v ← whole; standAt e.pos; holding [v] (truthy v))) : PE X e (gE X A cl G W c) ∧ PT X e (tTt X.K A cl G W c) := ⟨q, t_of_e q he⟩
theorem ok_of {X : Cx} {A : Ad} {cl : Call} {G : Tab} {ar : Nat → Nat} {C : Cmp} {W : WX} (cx : CxE X A cl G ar C W) {scope : Scope} (h : blkC C.N C.sc scope (ownOf C.N scope) = true) : BlkOk X.N X.env.scope scope (ownOf C.N scope) := by rw [cx.N, cx.sc]; exact blkOk_by h
theorem allE : ∀ n, AllE n
  | 0 => ⟨fun h => by simp [compE] at h, fun h => by simp [compE] at h, fun h => by simp [compEs] at h, fun h => by simp [compKV] at h, fun h => by simp [compEo] at h, fun h => by simp [compIfs] at h,
      fun h => by simp [compIt] at h, fun h => by simp [compTg] at h, fun h => by simp [compTgs] at h⟩
  | n + 1 => by
    have ih := allE n
    constructor
    · intro C e c h X A cl G ar W cx
      simp only [compE] at h
      split at h
      · -- a name
        split at h
        · cases h
        · rename_i c1
          split at h
          · rename_i c2
            obtain ⟨i, e1, rfl⟩ := Option.map_eq_some_iff.mp h
            have q := e_var cx (pos := by assumption) c1 c2 e1
            split
            · exact ⟨e_fz q, t_of_e (e_fz q) fun _ => rfl⟩
            · exact ⟨q, t_of_e q fun _ => rfl⟩
          · split at h
            · rename_i c2
              obtain ⟨i, e1, rfl⟩ := Option.map_eq_some_iff.mp h
              have q := e_glb cx (pos := by assumption) c1 c2 e1
              exact ⟨q, t_of_e q fun _ => rfl⟩
            · cases h
      · obtain ⟨t, e1, rfl⟩ := Option.map_eq_some_iff.mp h
        exact ⟨e_cst e1, t_of_e (e_cst e1) fun _ => rfl⟩
      · obtain ⟨t, e1, rfl⟩ := Option.map_eq_some_iff.mp h
        split
        · exact ⟨e_ctp (ih.es e1 cx), t_of_e (e_ctp (ih.es e1 cx)) fun _ => rfl⟩
        · exact ⟨e_tup (ih.es e1 cx), t_of_e (e_tup (ih.es e1 cx)) fun _ => rfl⟩
      · obtain ⟨t, e1, rfl⟩ := Option.map_eq_some_iff.mp h
        exact ⟨e_lst (ih.es e1 cx), t_of_e (e_lst (ih.es e1 cx)) fun _ => rfl⟩
      · split at h
        · rename_i c15
          obtain ⟨t, e1, rfl⟩ := Option.map_eq_some_iff.mp h
          obtain ⟨p1, p2, p3, p4⟩ := ih.kv e1 cx (by assumption)
          exact ⟨e_dct p1 p2 p3 c15 p4, t_of_e (e_dct p1 p2 p3 c15 p4) fun _ => rfl⟩
        · cases h
      · split at h
        · rename_i e1 e2
          cases h
          exact both (e_rep e1 (ih.ex e1 cx).1 (ih.ex e2 cx).1) fun _ => rfl
        · cases h
      · split at h
        · rename_i e1 e2
          cases h
          exact ⟨e_bin (ih.ex e1 cx).1 (ih.ex e2 cx).1, t_of_e (e_bin (ih.ex e1 cx).1 (ih.ex e2 cx).1) fun _ => rfl⟩
        · cases h
      · obtain ⟨t, e1, rfl⟩ := Option.map_eq_some_iff.mp h
        exact ⟨e_neg (ih.ex e1 cx).1, t_of_e (e_neg (ih.ex e1 cx).1) fun _ => rfl⟩
      · obtain ⟨t, e1, rfl⟩ := Option.map_eq_some_iff.mp h
        exact ⟨e_not (ih.ex e1 cx).1, t_not (ih.ex e1 cx).2⟩
      · split at h
        · rename_i e1 e2
          cases h
          exact ⟨e_cmp cx (ih.ex e1 cx).1 (ih.ex e2 cx).1 (mark_of _ e2), t_cmp cx (ih.ex e1 cx).1 (ih.ex e2 cx).1 (mark_of _ e2)⟩
        · cases h
      · split at h
        · rename_i e1 e2 e3
          cases h
          exact ⟨e_chn cx (ih.ex e1 cx).1 (ih.ex e2 cx).1 (ih.ex e3 cx).1 (mark_of _ e3), t_chn cx (ih.ex e1 cx).1 (ih.ex e2 cx).1 (ih.ex e3 cx).1 (mark_of _ e3)⟩
        · cases h
      · exact ⟨pe_one (ih.ex h cx).1, (pw_and1 (ih.ex h cx).2).pt⟩
      · exact ⟨pe_one (ih.ex h cx).1, (pw_or1 (ih.ex h cx).2).pt⟩
      · split at h
        · rename_i e1 e2
          cases h
          exact ⟨e_and (ih.ex e1 cx).1 (ih.ex e2 cx).1, (w_and (ih.ex e1 cx).2 (ih.bl e2 cx)).pt⟩
        · cases h
      · split at h
        · rename_i e1 e2
          cases h
          exact ⟨e_or (ih.ex e1 cx).1 (ih.ex e2 cx).1, (w_or (ih.ex e1 cx).2 (ih.bl e2 cx)).pt⟩
        · cases h
      · split at h
        · rename_i e1 e2 e3
          cases h
          exact ⟨e_ite (ih.ex e1 cx).2 (ih.ex e2 cx).1 (ih.ex e3 cx).1, t_ite (ih.ex e1 cx).2 (ih.ex e2 cx).2 (ih.ex e3 cx).2⟩
        · cases h
      · -- calls by name
        split at h
        · rename_i c1
          split at h
          · rename_i i ei
            obtain ⟨t, e1, rfl⟩ := Option.map_eq_some_iff.mp h
            exact both (e_call cx c1.1 c1.2.1 c1.2.2.2.2 ei e1 (ih.es e1 cx)) fun _ => rfl
          · rename_i ei
            split at h
            · rename_i co eo
              split at h
              · cases h
              · rename_i hne
                obtain ⟨t, e1, rfl⟩ := Option.map_eq_some_iff.mp h
                exact both (e_make cx c1.1 c1.2.1 c1.2.2.2.2 eo hne e1 (ih.es e1 cx)) fun _ => rfl
            split at h
            · cases h
            · rename_i hb
              have hb := eq_true_of_ne_false hb
              split at h
              · rename_i en
                subst en
                split at h
                · split at h
                  · rename_i e1 e2
                    split at h
                    · rename_i c3
                      cases h
                      exact both (e_isi cx c1.1 hb e1 e2 c3.1 c3.2 (ih.ex e1 cx).1) fun _ => rfl
                    · cases h
                  · cases h
                · cases h
              · split at h
                · rename_i eb0
                  obtain ⟨hs, k⟩ := eb0
                  subst hs
                  split at h
                  · simp only [isSetC, Bool.and_eq_true, decide_eq_true_eq] at k
                    obtain ⟨⟨k1, k2⟩, k3⟩ := k
                    subst k1
                    obtain ⟨t, e1, rfl⟩ := Option.map_eq_some_iff.mp h
                    exact both (e_sset cx c1.2.2.2.2 c1.1 hb k2 k3 e1 (ih.ex e1 cx).1) fun _ => rfl
                  · cases h
                split at h
                · rename_i eb
                  obtain ⟨t, e1, rfl⟩ := Option.map_eq_some_iff.mp h
                  exact both (e_bcall cx c1.1 c1.2.2.2.2 hb eb e1 (ih.es e1 cx)) fun _ => rfl
                · cases h
        · cases h
      · split at h
        · rename_i c1
          split at h
          · rename_i e1 e2 e3
            cases h
            exact both (e_mcall cx c1.1 e1 e2 (ih.ex e2 cx).1 c1.2.2.1 c1.2.2.2 e3 (ih.es e3 cx)) fun _ => rfl
          · rename_i e1 e2 e3
            cases h
            exact both (e_own cx c1.2.1 c1.1 e2 (ih.ex e2 cx).1 c1.2.2.1 c1.2.2.2 e3 (ih.es e3 cx)) fun _ => rfl
          · cases h
        · cases h
      · obtain ⟨t, e1, rfl⟩ := Option.map_eq_some_iff.mp h
        exact both (e_fld cx e1 (ih.ex e1 cx).1) fun _ => rfl
      · split at h
        · rename_i e1 e2 e3
          cases h
          exact both (e_slc (ih.ex e1 cx).1 (ih.eo e2 cx) (ih.eo e3 cx)) fun _ => rfl
        · cases h
      · obtain ⟨t, e1, rfl⟩ := Option.map_eq_some_iff.mp h
        exact both (e_rev (ih.ex e1 cx).1) fun _ => rfl
      · split at h
        · rename_i e1 e2
          cases h
          exact both (e_ix cx (ih.ex e1 cx).1 (ih.ex e2 cx).1 (plainIx_of e2)) fun _ => rfl
        · cases h
      · split at h
        · rename_i c1
          rw [Bool.and_eq_true] at c1
          split at h
          · rename_i e1 e2 e3 e4
            split at h
            · rename_i c2
              rw [Bool.and_eq_true] at c2
              have hin : ∀ i ∈ Tg.slots _, i ∈ (ownOf C.N _).map (·.2) := fun i hi => by
                have q := List.all_eq_true.mp c2.2 i hi
                simpa using q
              have hff := fun x => fold_of e1 X.env x
              have ok := ok_of cx c1.1
              split at h
              · rename_i c3
                cases h
                rw [Bool.and_eq_true] at c3
                obtain ⟨t1, t2⟩ := cx.top c3.1
                have hgg := fun s H Cc cls fp xe σ tk => ih.tg e2 (blkX cx s H Cc cls fp xe σ tk)
                have htt := fun s H Cc cls fp xe σ tk => ih.fs e3 (blkX cx s H Cc cls fp xe σ tk)
                have hee := fun s H Cc cls fp xe σ tk => (ih.ex e4 (blkX cx s H Cc cls fp xe σ tk)).1
                exact both (pe_w (pe_fz (pe_lcx (cx.calm c1.2) cx.nd t1 t2 cx.tk (ih.it e1 cx) ok hgg htt hee hff)) (fun σ H Q => e_compx cx hin σ H Q _ fun _ _ q => q)) fun _ => rfl
              cases h
              have hgg := fun s H Cc cls fp => ih.tg e2 (blkE cx s H Cc cls fp)
              have htt := fun s H Cc cls fp => ih.fs e3 (blkE cx s H Cc cls fp)
              have hee := fun s H Cc cls fp => (ih.ex e4 (blkE cx s H Cc cls fp)).1
              exact both (pe_w (pe_fz (pe_lc (cx.calm c1.2) cx.nd (ih.it e1 cx) ok hgg htt hee hff)) (fun σ H Q => e_comp cx hin σ H Q _ fun _ _ q => q)) fun _ => rfl
            · cases h
          · cases h
        · cases h
      · split at h
        · rename_i c1
          rw [Bool.and_eq_true] at c1
          split at h
          · rename_i e1 e2 e3 e5 e6 e7 e4
            split at h
            · rename_i c2
              cases h
              rw [Bool.and_eq_true, Bool.and_eq_true] at c2
              have hin : ∀ i ∈ Tg.slots _, i ∈ (ownOf C.N _).map (·.2) := fun i hi => by
                have q := List.all_eq_true.mp c2.1.2 i hi
                simpa using q
              have hin1 : ∀ i ∈ Tg.slots _, i ∈ (ownOf C.N _).map (·.2) := fun i hi => by
                have q := List.all_eq_true.mp c2.2 i hi
                simpa using q
              have hgg := fun s H Cc cls fp => ih.tg e2 (blkE cx s H Cc cls fp)
              have htt := fun s H Cc cls fp => ih.fs e3 (blkE cx s H Cc cls fp)
              have hii := fun s H Cc cls fp => ih.it e5 (blkE cx s H Cc cls fp)
              have hgg1 := fun s H Cc cls fp => ih.tg e6 (blkE cx s H Cc cls fp)
              have htt1 := fun s H Cc cls fp => ih.fs e7 (blkE cx s H Cc cls fp)
              have hee := fun s H Cc cls fp => (ih.ex e4 (blkE cx s H Cc cls fp)).1
              have ok := ok_of cx c1.1
              exact both (pe_w (pe_fz (pe_lc2 (cx.calm c1.2) cx.nd (ih.it e1 cx) ok hin1 hgg htt hii hgg1 htt1 hee (fun x => fold_of e1 X.env x) (fun env x => fold_of e5 env x))) (fun σ H Q => e_comp2 cx hin (fun _ h => h) σ H Q _ fun _ _ q => q)) fun _ => rfl
            · cases h
          · cases h
        · cases h
      · split at h
        · rename_i c1
          rw [Bool.and_eq_true] at c1
          split at h
          · rename_i e1 e2 e3 e4 e5
            split at h
            · rename_i c2
              cases h
              rw [Bool.and_eq_true] at c2
              have hin : ∀ i ∈ Tg.slots _, i ∈ (ownOf C.N _).map (·.2) := fun i hi => by
                have q := List.all_eq_true.mp c2.2 i hi
                simpa using q
              have hgg := fun s H Cc cls fp => ih.tg e2 (blkE cx s H Cc cls fp)
              have htt := fun s H Cc cls fp => ih.fs e3 (blkE cx s H Cc cls fp)
              have hkk := fun s H Cc cls fp => (ih.ex e4 (blkE cx s H Cc cls fp)).1
              have hee := fun s H Cc cls fp => (ih.ex e5 (blkE cx s H Cc cls fp)).1
              have ok := ok_of cx c1.1
              exact both (pe_w (pe_fz (pe_dc (cx.calm c1.2) cx.nd (ih.it e1 cx) ok hgg htt hkk hee fun x => fold_of e1 X.env x)) (fun σ H Q => e_dcomp cx hin σ H Q _ fun _ _ q => q)) fun _ => rfl
            · cases h
          · cases h
        · cases h
      · cases h
    · -- and, or as tests
      intro C op es pos c h X A cl G ar W cx
      cases op with
      | And =>
        match es, h with
        | [], h => simp [compE] at h
        | [a], h => simp only [compE] at h; exact pw_and1 (ih.ex h cx).2
        | a :: b :: r, h =>
          simp only [compE] at h
          split at h
          · rename_i e1 e2
            cases h
            exact w_and (ih.ex e1 cx).2 (ih.bl e2 cx)
          · cases h
      | Or =>
        match es, h with
        | [], h => simp [compE] at h
        | [a], h => simp only [compE] at h; exact pw_or1 (ih.ex h cx).2
        | a :: b :: r, h =>
          simp only [compE] at h
          split at h
          · rename_i e1 e2
            cases h
            exact w_or (ih.ex e1 cx).2 (ih.bl e2 cx)
          · cases h
    · intro C es c h X A cl G ar W cx
      simp only [compEs] at h
      split at h
      · cases h; exact a_nil
      · split at h
        · rename_i e1 e2
          cases h
          exact a_cons (ih.ex e1 cx).1 (ih.es e2 cx) (star_of e1 _ _)
        · cases h
    · intro C ks vs c h X A cl G ar W cx pos
      simp only [compKV] at h
      split at h
      · cases h; exact ⟨pps_nil, rfl, rfl, fun _ => rfl⟩
      · split at h
        · rename_i e1 e2 e3
          cases h
          obtain ⟨p1, p2, p3, p4⟩ := ih.kv e3 cx pos
          exact ⟨pps_cons (ih.ex e1 cx).1 (ih.ex e2 cx).1 p1, by simp [p2], by simp [p3], fun q => by cases q⟩
        · cases h
      · cases h
    · intro C e c h X A cl G ar W cx
      simp only [compEo] at h
      split at h
      · cases h; exact o_none
      · obtain ⟨t, e1, rfl⟩ := Option.map_eq_some_iff.mp h
        exact o_some (ih.ex e1 cx).1
    · intro C es c h X A cl G ar W cx
      simp only [compIfs] at h
      split at h
      · cases h; exact c_none
      · obtain ⟨t, e1, rfl⟩ := Option.map_eq_some_iff.mp h
        exact c_some (ih.ex e1 cx).2
      · cases h
    · intro C e tg c h X A cl G ar W cx
      simp only [compIt] at h
      split at h
      · split at h
        · rename_i c1
          split at h
          · rename_i c2
            obtain ⟨t, e1, rfl⟩ := Option.map_eq_some_iff.mp h
            obtain ⟨rfl, c2⟩ := c2
            exact i_range cx c1.1 c1.2.2.2.2.1 c2 e1 (ih.es e1 cx)
          · split at h
            · rename_i c2
              obtain ⟨rfl, c2⟩ := c2
              split at h
              · obtain ⟨t, e1, rfl⟩ := Option.map_eq_some_iff.mp h
                cases tg <;> simp [isTupE] at c2
                exact i_enum cx c1.1 c1.2.2.2.2.1 e1 (ih.ex e1 cx).1
              · cases h
            · split at h
              · rename_i c2
                obtain ⟨rfl, c2⟩ := c2
                split at h
                · split at h
                  · rename_i e1 e2
                    cases h
                    cases tg <;> simp [isTupE] at c2
                    exact i_zip cx c1.1 c1.2.2.2.2.1 e1 (ih.ex e1 cx).1 e2 (ih.ex e2 cx).1
                  · cases h
                · cases h
              · obtain ⟨t, e1, rfl⟩ := Option.map_eq_some_iff.mp h
                exact i_val (ih.ex e1 cx).1
        · obtain ⟨t, e1, rfl⟩ := Option.map_eq_some_iff.mp h
          exact i_val (ih.ex e1 cx).1
      · obtain ⟨t, e1, rfl⟩ := Option.map_eq_some_iff.mp h
        exact i_val (ih.ex e1 cx).1
    · intro C e c h X A cl G ar W cx
      simp only [compTg] at h
      split at h
      · split at h
        · rename_i c1
          obtain ⟨t, e1, rfl⟩ := Option.map_eq_some_iff.mp h
          exact g_nm cx c1 e1
        · cases h
      · split at h
        · rename_i c1
          obtain ⟨t, e1, rfl⟩ := Option.map_eq_some_iff.mp h
          obtain ⟨p1, p2, p3, p4⟩ := ih.ts e1 cx
          exact g_tup (n := 0) (cx.calm c1) p1 p2 p3 p4
        · cases h
      · cases h
      · rename_i hns
        split at h
        · rename_i e1 e2
          cases h
          refine g_sub cx (ih.ex e1 cx).1 (ih.ex e2 cx).1 ?_
          intro v
          rename_i i _ _ _ _ _
          cases i <;> first | rfl | (exact (hns _ _ _ _ rfl).elim)
        · cases h
      · obtain ⟨t, e1, rfl⟩ := Option.map_eq_some_iff.mp h
        exact g_fld cx (ih.ex e1 cx).1
      · cases h
    · intro C es c h X A cl G ar W cx
      simp only [compTgs] at h
      split at h
      · cases h; exact ⟨gs_nil, rfl, rfl, rfl⟩
      · split at h
        · rename_i e1 e2
          cases h
          obtain ⟨p1, p2, p3, p4⟩ := ih.ts e2 cx
          refine ⟨gs_cons (ih.tg e1 cx) p1 (tstar_of e1 _ _), ?_, ?_, ?_⟩
          · rw [tstar_of e1 _ _]; simp [p2]
          · rw [tstar_of e1 _ _, List.findIdx?_cons, p3]; rfl
          · simp [Tgs.len, p4]
        · cases h
end
end PF

end

section
set_option Elab.async false
set_option linter.all false
set_option maxRecDepth 100000
set_option maxHeartbeats 8000000
set_option autoImplicit false
/-! PfE1: statements. -/
namespace PF
open PySem L2 PySem.Spec PyProof.Rows
section
variable {K : PySem.W.Frag} {A : Ad} {ρ ρ1 : List Addr} {H H1 : Hp}
theorem OkS.base {r : RS} {D : Ends} {W : WX} (h : OkS K A ρ H r D W) (s : Step K ρ H ρ1 H1) : OkS K A ρ1 H1 r D W := by
  cases r with
  | nx sl st => exact fun σ' H' ρ' s' => h σ' H' ρ' (s.trans s')
  | bk sl st => exact fun σ' H' ρ' s' => h σ' H' ρ' (s.trans s')
  | ct sl st => exact fun σ' H' ρ' s' => h σ' H' ρ' (s.trans s')
  | rt t st => exact fun v H' ρ' s' => h v H' ρ' (s.trans s')
  | xc x sl st => exact fun k d σ' H' ρ' s' => h k d σ' H' ρ' (s.trans s')
  | stuck => exact h
theorem thenS_seq {α β : Type} {rr : List Addr → Hp → β → α → Prop} {r : PF.R α} {f : α → Store → RS} {sl : Sl} {D : Ends} {W : WX} {σ : L2.St} {Q1 : β → Hp → Prop} (h : OkS K A ρ H (r.thenS sl f) D W) (S : RSl K A ρ H σ sl)
    (hk : ∀ a st1 b H1 ρ1, Step K ρ H ρ1 H1 → Rel K A ρ1 H1 st1 → rr ρ1 H1 b a → OkS K A ρ1 H1 (f a st1) D W → Q1 b H1) : OkG K A rr ρ H r Q1 (fun k d H' => W k d σ H') := by
  cases r with
  | ok a st' => exact fun b H' ρ' s' R' q => hk a st' b H' ρ' s' R' q (OkS.base h s')
  | exc x st' => exact fun k d H' ρ' s' R' q => h k d σ H' ρ' s' R' (S.step s') q
  | stuck => exact h
theorem noExc_seq {α β : Type} {rr : List Addr → Hp → β → α → Prop} {r : PF.R α} {f : α → Store → RS} {sl : Sl} {D : Ends} {W : WX} {Q1 : β → Hp → Prop} (h : OkS K A ρ H (r.noExc.thenS sl f) D W)
    (hk : ∀ a st1 b H1 ρ1, Step K ρ H ρ1 H1 → Rel K A ρ1 H1 st1 → rr ρ1 H1 b a → OkS K A ρ1 H1 (f a st1) D W → Q1 b H1) : OkG K A rr ρ H r Q1 (fun _ _ _ => False) := by
  cases r with
  | ok a st' => exact fun b H' ρ' s' R' q => hk a st' b H' ρ' s' R' q (OkS.base h s')
  | exc x st' => exact h.elim
  | stuck => exact h
end
section
variable {X : Cx} {A : Ad} {cl : Call} {G : Tab} {ar : Nat → Nat} {C : Cmp} {W : WX}
theorem set_idem {α : Type} {l : List α} {i : Nat} {a : α} (h : l[i]? = some a) : l.set i a = l := by
  apply List.ext_getElem?
  intro j
  by_cases e : i = j
  · subst e; rw [List.getElem?_set_self (List.getElem?_eq_some_iff.mp h).1, h]
  · rw [List.getElem?_set_ne e]
abbrev gS (X : Cx) (A : Ad) (cl : Call) (G : Tab) (W : WX) (c : S) : TS := tS X.K A cl G W c
abbrev gSs (X : Cx) (A : Ad) (cl : Call) (G : Tab) (W : WX) (c : Ss) : TS := tSs X.K A cl G W c
theorem ss_nil : PSs X [] (gSs X A cl G W .nil) := pss_w pss_nil fun D σ H h => by
  obtain ⟨ρ, st, sl, R, S, h⟩ := h
  unfold evSs at h
  exact h σ H ρ .refl R S
theorem ss_cons {s : Stmt} {ss : List Stmt} {c : S} {cs : Ss} (hs : PS X s (gS X A cl G W c)) (hss : PSs X ss (gSs X A cl G W cs)) : PSs X (s :: ss) (gSs X A cl G W (.cons c cs)) := by
  refine pss_w (pss_cons hs hss) fun D σ H h => ?_
  obtain ⟨ρ, st, sl, R, S, h⟩ := h
  unfold evSs at h
  refine ⟨ρ, st, sl, R, S, ?_⟩
  cases ev : evS cl G c sl st with
  | nx sl1 st1 =>
    rw [ev] at h
    exact fun σ' H' ρ' s' R' S' => ⟨ρ', st1, sl1, R', S', OkS.base h s'⟩
  | bk sl1 st1 => rw [ev] at h; exact h
  | ct sl1 st1 => rw [ev] at h; exact h
  | rt t st1 => rw [ev] at h; exact h
  | xc x sl1 st1 => rw [ev] at h; exact h
  | stuck => rw [ev] at h; exact h
/-- behind a statement a cell is locked for good -/
theorem ss_lock {r : List Stmt} {c : Ss} {i : Nat} (h : PSs X r (gSs X A cl G W c)) : PSs X r (gSs X A cl G W (.cons (.fz i) c)) := by
  refine ⟨fun pins s σ H D I q => ?_⟩
  obtain ⟨ρ, st, sl, R, S, q⟩ := q
  unfold evSs evS at q
  split at q
  · rename_i sl2 st2 e
    split at e
    · rename_i n en
      obtain ⟨v, ev, rv⟩ := S.at_ _ _ en
      cases rv with | ref k =>
      have hr := List.mem_of_getElem? k
      split at e
      · rename_i xs ex
        cases e
        obtain ⟨vs, g, qq⟩ := R.lstAt k ex
        obtain ⟨od, I2⟩ := I.lock g True.intro
        have sw := Step.write (K := X.K) (o := .frz od (.lst vs)) hr g True.intro
        refine h.run pins s σ _ D I2 ⟨ρ, _, _, R.write (c := .dead) k g True.intro fun s => ⟨_, upd_same⟩, ?_, OkS.base q sw⟩
        have S2 := (S.step sw).set i (v := .ref _) (t := .rol xs) (.rol (.inl ⟨od, upd_same⟩) (qq.step sw))
        rwa [set_idem ev] at S2
      · rename_i xs ex
        cases e
        obtain ⟨vs, g, qq⟩ := R.dicAt k ex
        obtain ⟨od, I2⟩ := I.lock g True.intro
        have sw := Step.write (K := X.K) (o := .frz od (.dK vs)) hr g True.intro
        refine h.run pins s σ _ D I2 ⟨ρ, _, _, R.write (c := .dead) k g True.intro fun s => ⟨_, upd_same⟩, ?_, OkS.base q sw⟩
        have S2 := (S.step sw).set i (v := .ref _) (t := .rod xs) (.rod ⟨od, upd_same⟩ (qq.step sw))
        rwa [set_idem ev] at S2
      · cases e
    · cases e
  · rename_i r' hne
    exfalso
    revert q
    split at hne
    · split at hne
      · exact (hne _ _ rfl).elim
      · exact (hne _ _ rfl).elim
      · exact fun q => q
    · exact fun q => q
theorem asg_red {e : Expr} {ce : E} {tg : Tg} (D : Ends) (σ : L2.St) (H : Hp) (h : gS X A cl G W (.asg tg ce) D σ H) : gE X A cl G W ce σ H fun x H1 => tTg X.K A cl G tg x σ H1 D.nx := by
  obtain ⟨ρ, st, sl, R, S, h⟩ := h
  unfold evS at h
  refine ⟨ρ, st, sl, R, S, thenS_seq h S fun t st1 v H1 ρ1 s1 R1 v1 h1 => ?_⟩
  refine ⟨ρ1, st1, sl, t, R1, S.step s1, v1, noExc_seq h1 fun sl2 st2 σ2 H2 ρ2 s2 R2 r2 h2 => ?_⟩
  exact h2 σ2 H2 ρ2 .refl R2 r2.1
/-- what kind of store a comprehension's value has -/
theorem swaps_comp {elt : Expr} {gs : List Comprehension} {scope : Scope} {p : Pos} {t : Str} {pt : Pos} {l : Nat} {env : PySem.Env} :
    swapsWith (.ListComp elt gs scope p) (some (.Name t pt)) l env = pure (env.blockKind == .function && env.kindOf t == some .local && pt.line == p.line && !(scope.names.any fun (n, k) => n == t && (k == .local || k == .cell))) := rfl
theorem noswap_of {n : Nat} {C : Cmp} {e : Expr} {c : E} {l : Nat} {env : PySem.Env} {o : Option Expr} (h : compE n C e = some c) (hne : isCompE e = false) : swapsWith e o l env = pure false := by
  cases n with
  | zero => simp [compE] at h
  | succ n => cases e <;> first | rfl | (simp [isCompE] at hne) | (simp [compE] at h)
theorem swaps_dcomp {kx vx : Expr} {gs : List Comprehension} {scope : Scope} {p : Pos} {t : Str} {pt : Pos} {l : Nat} {env : PySem.Env} :
    swapsWith (.DictComp kx vx gs scope p) (some (.Name t pt)) l env = pure (env.blockKind == .function && env.kindOf t == some .local && pt.line == p.line && !(scope.names.any fun (n, k) => n == t && (k == .local || k == .cell))) := rfl
/-- behind a statement a thing may be locked for good -/
def FzD (D : Ends) : Ends := { D with nx := fun σ H => D.nx σ H ∨ ∃ p u, H p = some u ∧ Mut (some u) ∧ ∀ od, D.nx σ (upd H p (.frz od u)) }
theorem ps_fz {s : Stmt} {t : TS} (h : PS X s t) : PS X s (fun D σ H => t (FzD D) σ H) := by
  refine ⟨fun pins s0 σ H D I q => wpAny_mono (h.run pins s0 σ H (FzD D) I q) (fun f s1 q1 => ?_) fun _ _ q => q⟩
  cases f with
  | next =>
    obtain ⟨σ', H', I2, q2⟩ := q1
    rcases q2 with q2 | ⟨p, u, e, mu, q2⟩
    · exact ⟨σ', H', I2, q2⟩
    · obtain ⟨od, I3⟩ := I2.lock e mu
      exact ⟨σ', _, I3, q2 od⟩
  | brk => exact q1
  | cont => exact q1
  | ret v => exact q1
theorem folded_none {ts vs : List Expr} {k1 k2 : Nat} {pt p2 : Pos} {env : PySem.Env} (h : vs.all (foldedForSure 8) = true) : swappedStores [.Tuple ts k1 pt] (.Tuple vs k2 p2) env = pure none := by
  unfold swappedStores
  simp only [h, if_true]
  repeat' split
  all_goals rfl
theorem s_asg (cx : CxE X A cl G ar C W) {tg e : Expr} {ct : Tg} {ce : E} {pos : Pos} {n m : Nat} (hce : compE n C e = some ce) (hct : compTg m C tg = some ct) (he : PE X e (gE X A cl G W ce)) (hg : PG X tg (tTg X.K A cl G ct))
    (hnt : isTupE tg = true → isTupE e = true → swappedStores [tg] e X.env = pure none)
    (hlc : ∀ {t : Str} {pt : Pos}, isCompE e = true → tg = .Name t pt → X.env.scope.names.lookup t = some .local → swapsWith e (some (.Name t pt)) pos.line X.env = pure true → PS X (.Assign [.Name t pt] e pos) (gS X A cl G W (.asg ct ce))) : PS X (.Assign [tg] e pos) (gS X A cl G W (.asg ct ce)) := by
  have hw : swappedStores [tg] e X.env = pure none := by
    cases m with
    | zero => simp [compTg] at hct
    | succ m =>
      cases tg <;> first | rfl | (simp [compTg] at hct; done) | skip
      cases e <;> first | rfl | exact hnt rfl rfl
  have h1 : (assignEach [tg] X.env).map (·.2) = [assign tg X.env] := by rw [tstar_of hct [] X.env]; rfl
  have ord : swapsWith e (some tg) pos.line X.env = pure false → PS X (.Assign [tg] e pos) (gS X A cl G W (.asg ct ce)) := fun hs => ps_w (ps_asg he hg hs hw h1) fun D σ H h => asg_red (e := e) D σ H h
  by_cases hc : isCompE e = false
  · exact ord (noswap_of hce hc)
  · cases n with
    | zero => simp [compE] at hce
    | succ n =>
      cases e <;> first | (exact absurd rfl hc) | (simp [compE] at hce; done) | skip
      · rename_i elt gs scope p
        cases tg <;> first | (exact ord rfl) | skip
        rename_i t pt
        have q := swaps_comp (elt := elt) (gs := gs) (scope := scope) (p := p) (t := t) (pt := pt) (l := pos.line) (env := X.env)
        cases hb : (X.env.blockKind == .function && X.env.kindOf t == some .local && pt.line == p.line && !(scope.names.any fun (n, k) => n == t && (k == .local || k == .cell))) with
        | true =>
          rw [hb] at q
          simp only [Bool.and_eq_true] at hb
          exact hlc rfl rfl (eq_of_beq hb.1.1.2) q
        | false => rw [hb] at q; exact ord q
      · rename_i kx vx gs scope p
        cases tg <;> first | (exact ord rfl) | skip
        rename_i t pt
        have q := swaps_dcomp (kx := kx) (vx := vx) (gs := gs) (scope := scope) (p := p) (t := t) (pt := pt) (l := pos.line) (env := X.env)
        cases hb : (X.env.blockKind == .function && X.env.kindOf t == some .local && pt.line == p.line && !(scope.names.any fun (n, k) => n == t && (k == .local || k == .cell))) with
        | true =>
          rw [hb] at q
          simp only [Bool.and_eq_true] at hb
          exact hlc rfl rfl (eq_of_beq hb.1.1.2) q
        | false => rw [hb] at q; exact ord q
theorem s_par (cx : CxE X A cl G ar C W) (hc : C.calm = true) {x y : Str} {px py pt pos p2 : Pos} {kt k2 : Nat} {a b : Expr} {ca cb : E} {i j n m : Nat} (hp : parOk C.sc x y px py a b = true) (hi : idx C.N x = some i) (hj : idx C.N y = some j) (hij : i ≠ j)
    (hca : compE n C a = some ca) (hcb : compE m C b = some cb) (ha : PE X a (gE X A cl G W ca)) (hb : PE X b (gE X A cl G W cb)) :
    PS X (.Assign [.Tuple [.Name x px, .Name y py] kt pt] (.Tuple [a, b] k2 p2) pos) (gS X A cl G W (.par i j ca cb)) := by
  unfold parOk at hp
  simp only [Bool.and_eq_true, Bool.not_eq_true'] at hp
  obtain ⟨⟨⟨⟨⟨h1, h2⟩, h3⟩, h4⟩, h5⟩, h6⟩ := hp
  have hxy : C.sc.names.lookup x = some .local ∧ C.sc.names.lookup y = some .local := by
    split at h1
    · exact ⟨by assumption, by assumption⟩
    · cases h1
  have hx : X.env.scope.names.lookup x = some .local := by rw [cx.sc]; exact hxy.1
  have hy : X.env.scope.names.lookup y = some .local := by rw [cx.sc]; exact hxy.2
  have hpa : PA X [a, b] (tEs X.K A cl G W (.cons ca (.cons cb .nil))) := a_cons ha (a_cons hb a_nil (star_of hcb _ _)) (star_of hca _ _)
  have hk : X.env.scope.kind = .function := by rw [cx.sc]; exact of_decide_eq_true h6
  have h3' : ¬ x = y := of_decide_eq_false h3
  have h2' : px.line = py.line := eq_of_beq h2
  have nst : ∀ {n : Nat} {C : Cmp} {e : Expr} {c : E}, compE n C e = some c → (match e with | .Starred .. => true | _ => false) = false := fun {n C e c} h => by
    cases n with
    | zero => simp [compE] at h
    | succ n => cases e <;> first | rfl | (simp [compE] at h)
  have hsw : swappedStores [.Tuple [.Name x px, .Name y py] kt pt] (.Tuple [a, b] k2 p2) X.env = pure (some [x, y]) := by
    unfold swappedStores
    have hb : X.env.blockKind = .function := by unfold PySem.Env.blockKind; rw [hk]; rfl
    have kx : X.env.kindOf x = some .local := hx
    have ky : X.env.kindOf y = some .local := hy
    have n1 := nst hca
    have n2 := nst hcb
    have f1 : ([a, b].any fun | .Starred .. => true | _ => false) = false := by rw [List.any_cons, List.any_cons, List.any_nil, n1, n2]; rfl
    have f2 : ([Expr.Name x px, Expr.Name y py].filterMap fun
        | .Name id pos => if X.env.kindOf id == some .local && pos.line == px.line then some id else none
        | _ => none) = [x, y] := by
      simp [kx, ky, h2']
    have f3 : [x, y].eraseDups.length = 2 := by
      have : (y == x) = false := beq_eq_false_iff_ne.mpr fun e => h3' e.symm
      simp [List.eraseDups_cons, this]
    show (if (!([Expr.Name x px, Expr.Name y py].length == 2 || [Expr.Name x px, Expr.Name y py].length == 3) || [a, b].length != [Expr.Name x px, Expr.Name y py].length || X.env.blockKind != .function) = true then pure none else _) = _
    rw [hb, if_neg (by simp)]
    show (if ([a, b].any fun | .Starred .. => true | _ => false) = true then pure none else _) = _
    rw [f1, if_neg Bool.false_ne_true]
    show (if (([Expr.Name x px, Expr.Name y py].filterMap fun
        | .Name id pos => if X.env.kindOf id == some .local && pos.line == px.line then some id else none
        | _ => none).length != [Expr.Name x px, Expr.Name y py].length || ([Expr.Name x px, Expr.Name y py].filterMap fun
        | .Name id pos => if X.env.kindOf id == some .local && pos.line == px.line then some id else none
        | _ => none).eraseDups.length != ([Expr.Name x px, Expr.Name y py].filterMap fun
        | .Name id pos => if X.env.kindOf id == some .local && pos.line == px.line then some id else none
        | _ => none).length) = true then pure none else _) = _
    rw [f2, f3, if_neg (by simp)]
    rw [h4, h5]
    exact congrArg (fun l => (pure (some l) : Sem (Option (List Str)))) f2
  have hr : PS X (.Assign [.Tuple [.Name x px, .Name y py] kt pt] (.Tuple [a, b] k2 p2) pos) (tPar i j (tEs X.K A cl G W (.cons ca (.cons cb .nil)))) :=
    ps_par (cx.calm hc) cx.nd (by rw [cx.N]; exact idx_some hi) (by rw [cx.N]; exact idx_some hj) hij hx hy hpa hsw rfl
  refine ps_w hr fun D σ H h => ?_
  obtain ⟨ρ, st, sl, R, S, h⟩ := h
  unfold evS at h
  have h' : OkS X.K A ρ H ((evEs cl G (.cons ca (.cons cb .nil)) sl st).thenS sl fun ts st => match ts with
      | [x, y] => .nx ((sl.set i (some x)).set j (some y)) st
      | _ => .stuck) D W := by
    unfold evEs evEs evEs
    cases e1 : evE cl G ca sl st with
    | stuck => rw [e1] at h; exact h
    | exc x st1 => rw [e1] at h; exact h
    | ok t st1 =>
      rw [e1] at h
      rw [PF.R.thenS_ok] at h
      rw [PF.R.bind_ok]
      cases e2 : evE cl G cb sl st1 with
      | stuck => rw [e2] at h; exact h
      | exc x st1 => rw [e2] at h; exact h
      | ok t2 st2 => rw [e2] at h; exact h
  refine ⟨ρ, st, sl, R, S, thenS_seq h' S fun ts st1 vs H1 ρ1 s1 R1 v1 h1 => ?_⟩
  split at h1
  · obtain ⟨v, w, rfl, r1, r2⟩ := two_rel v1
    exact ⟨v, w, rfl, h1 _ H1 ρ1 .refl R1 (((S.step s1).set i r1).set j r2)⟩
  · exact h1.elim
theorem s_aug (cx : CxE X A cl G ar C W) {x : Str} {px pos : Pos} {op : Operator} {e : Expr} {ce : E} {i : Nat} (hop : op = .Add ∨ op = .Sub) (h1 : locB C x = true) (h2 : idx C.N x = some i) (he : PE X e (gE X A cl G W ce)) : PS X (.AugAssign (.Name x px) op e pos) (gS X A cl G W (.aug i op ce)) := by
  obtain ⟨l1, l2⟩ := loc_of cx h1
  have hN : X.N[i]? = some x := by rw [cx.N]; exact idx_some h2
  have red : ∀ {f : Int → Int → Int}, (∀ a b st, binT op (.int a) (.int b) st = .ok (.int (f a b)) st) → ∀ D σ H, gS X A cl G W (.aug i op ce) D σ H → tAug i (gE X A cl G W ce) (ipI f) D σ H := fun {f} hf D σ H h => by
    obtain ⟨ρ, st, sl, R, S, h⟩ := h
    unfold evS at h
    split at h
    · rename_i t et
      obtain ⟨v, ev, rv⟩ := S.at_ i t et
      refine ⟨v, ev, ρ, st, sl, R, S, thenS_seq h S fun u st1 w H1 ρ1 s1 R1 r1 h1 => ?_⟩
      split at h1
      · cases rv; cases r1
        refine ⟨_, _, rfl, rfl, ?_⟩
        rw [hf] at h1
        rw [PF.R.thenS_ok] at h1
        exact h1 _ H1 ρ1 .refl R1 ((S.step s1).set i (.int _))
      · exact h1.elim
    · exact h.elim
  rcases hop with rfl | rfl
  · exact ps_w (ps_aug cx.nd hN l1 he ip_add l2) (red fun _ _ _ => rfl)
  · exact ps_w (ps_aug cx.nd hN l1 he ip_sub l2) (red fun _ _ _ => rfl)
theorem s_expr {e : Expr} {ce : E} {pos : Pos} {n : Nat} (hce : compE n C e = some ce) (hne : isCompE e = false) (he : PE X e (gE X A cl G W ce)) : PS X (.Expr e pos) (gS X A cl G W (.expr ce)) := by
  refine ps_w (ps_expr he (noswap_of hce hne)) fun D σ H h => ?_
  obtain ⟨ρ, st, sl, R, S, h⟩ := h
  unfold evS at h
  exact ⟨ρ, st, sl, R, S, thenS_seq h S fun t st1 v H1 ρ1 s1 R1 v1 h1 => h1 σ H1 ρ1 .refl R1 (S.step s1)⟩
theorem s_ret {e : Expr} {ce : E} {pos : Pos} (he : PE X e (gE X A cl G W ce)) : PS X (.Return (some e) pos) (gS X A cl G W (.ret ce)) := by
  refine ps_w (ps_ret he) fun D σ H h => ?_
  obtain ⟨ρ, st, sl, R, S, h⟩ := h
  unfold evS at h
  exact ⟨ρ, st, sl, R, S, thenS_seq h S fun t st1 v H1 ρ1 s1 R1 v1 h1 => h1 v H1 ρ1 .refl R1 v1⟩
theorem s_retN {pos : Pos} : PS X (.Return none pos) (gS X A cl G W .retN) := ps_w ps_retN fun D σ H h => by
  obtain ⟨ρ, st, sl, R, S, h⟩ := h
  unfold evS at h
  exact h .non H ρ .refl R .non
theorem s_pass {s : Stmt} (hs : PS X s tNext) : PS X s (gS X A cl G W .pass) := ps_w hs fun D σ H h => by
  obtain ⟨ρ, st, sl, R, S, h⟩ := h
  unfold evS at h
  exact h σ H ρ .refl R S
theorem s_brk {pos : Pos} : PS X (.Break pos) (gS X A cl G W .brk) := ps_w ps_break fun D σ H h => by
  obtain ⟨ρ, st, sl, R, S, h⟩ := h
  unfold evS at h
  exact h σ H ρ .refl R S
theorem s_cnt {pos : Pos} : PS X (.Continue pos) (gS X A cl G W .cnt) := ps_w ps_continue fun D σ H h => by
  obtain ⟨ρ, st, sl, R, S, h⟩ := h
  unfold evS at h
  exact h σ H ρ .refl R S
theorem s_if {c : Expr} {a b : List Stmt} {cc : E} {ca cb : Ss} {pos : Pos} (hc : PT X c (tTt X.K A cl G W cc)) (ha : PSs X a (gSs X A cl G W ca)) (hb : PSs X b (gSs X A cl G W cb)) : PS X (.If c a b pos) (gS X A cl G W (.ifS cc ca cb)) := by
  refine ps_w (ps_if hc ha hb) fun D σ H h => ?_
  obtain ⟨ρ, st, sl, R, S, h⟩ := h
  unfold evS at h
  refine ⟨ρ, st, sl, R, S, thenS_seq h S fun k st1 k' H1 ρ1 s1 R1 e h1 => ?_⟩
  subst e
  cases k' with
  | true => exact ⟨ρ1, st1, sl, R1, S.step s1, h1⟩
  | false => exact ⟨ρ1, st1, sl, R1, S.step s1, h1⟩
theorem s_while (hp : PassesOwn (model X.prog X.w) X.A X.env X.xe) {c : Expr} {b : List Stmt} {cc : E} {cb : Ss} {pos : Pos} (hc : PT X c (tTt X.K A cl G W cc)) (hb : PSs X b (gSs X A cl G W cb)) : PS X (.While c b [] pos) (gS X A cl G W (.whl cc cb)) := by
  refine ps_w (ps_while hp hc hb) fun D σ H h => ?_
  obtain ⟨ρ, st, sl, R, S, h⟩ := h
  unfold evS at h
  refine ⟨fun m σ H => ∃ ρ st sl, Rel X.K A ρ H st ∧ RSl X.K A ρ H σ sl ∧ OkS X.K A ρ H (whileL (fun sl st => (evE cl G cc sl st).bind fun x st => truR st x) (fun sl st => evSs cl G cb sl st) m sl st) D W, ⟨WF, ρ, st, sl, R, S, h⟩, ?_⟩
  rintro m σ H ⟨ρ, st, sl, R, S, h⟩
  cases m with
  | zero => exact h.elim
  | succ m =>
    unfold whileL at h
    refine ⟨ρ, st, sl, R, S, thenS_seq h S fun k st1 k' H1 ρ1 s1 R1 e h1 => ?_⟩
    subst e
    cases k' with
    | false =>
      rw [if_neg Bool.false_ne_true] at h1 ⊢
      exact h1 σ H1 ρ1 .refl R1 (S.step s1)
    | true =>
      rw [if_pos rfl] at h1 ⊢
      refine ⟨fun σ H => ∃ ρ st sl, Rel X.K A ρ H st ∧ RSl X.K A ρ H σ sl ∧ OkS X.K A ρ H (whileL (fun sl st => (evE cl G cc sl st).bind fun x st => truR st x) (fun sl st => evSs cl G cb sl st) m sl st) D W, fun σ' H' q => ⟨m, Nat.lt_succ_self _, q⟩, ρ1, st1, sl, R1, S.step s1, ?_⟩
      cases ev : evSs cl G cb sl st1 with
      | nx sl2 st2 => rw [ev] at h1; exact fun σ' H' ρ' s' R' S' => ⟨ρ', st2, sl2, R', S', OkS.base h1 s'⟩
      | ct sl2 st2 => rw [ev] at h1; exact fun σ' H' ρ' s' R' S' => ⟨ρ', st2, sl2, R', S', OkS.base h1 s'⟩
      | bk sl2 st2 => rw [ev] at h1; exact h1
      | rt t st2 => rw [ev] at h1; exact h1
      | xc x sl2 st2 => rw [ev] at h1; exact h1
      | stuck => rw [ev] at h1; exact h1
theorem s_for (hp : PassesOwn (model X.prog X.w) X.A X.env X.xe) (hc : X.calm = true) {tg it : Expr} {b : List Stmt} {ct : Tg} {ci : PF.It} {cb : Ss} {pos : Pos} (hi : PI X tg it (tIt X.K A cl G W ci)) (hg : PG X tg (tTg X.K A cl G ct)) (hb : PSs X b (gSs X A cl G W cb))
    (hs : ∀ x, foldedSetIterable it X.env x = pure x) : PS X (.For tg it b [] pos) (gS X A cl G W (.for ct ci cb)) := by
  refine ps_w (ps_for hp hc hi hg hb hs) fun D σ H h => ?_
  obtain ⟨ρ, st, sl, R, S, h⟩ := h
  unfold evS at h
  refine ⟨ρ, st, sl, R, S, thenS_seq h S fun j st1 J H1 ρ1 s1 R1 rj h1 => ?_⟩
  split at h1
  · rename_i k ek
    refine ⟨fun i m σ H => ∃ ρ st sl, Step X.K ρ1 H1 ρ H ∧ Rel X.K A ρ H st ∧ RSl X.K A ρ H σ sl ∧ OkS X.K A ρ H (forL j (fun x sl st => (evTg cl G ct x sl st).noExc.thenS sl fun sl st => evSs cl G cb sl st) m i sl st) D W, ⟨k, ρ1, st1, sl, .refl, R1, S.step s1, h1⟩, ?_⟩
    rintro i m σ H ⟨ρ, st, sl, s, R, S, h⟩
    obtain ⟨hstop, hgo⟩ := rj ρ H st s.toKp R
    cases m with
    | zero =>
      unfold forL at h
      split at h
      · rename_i e0
        exact .inl ⟨hstop i e0, h σ H ρ .refl R S⟩
      · exact h.elim
    | succ m =>
      unfold forL at h
      split at h
      · rename_i t et
        obtain ⟨g1, g2⟩ := hgo i t et
        refine .inr ⟨g1, fun σ H => ∃ ρ st sl, Step X.K ρ1 H1 ρ H ∧ Rel X.K A ρ H st ∧ RSl X.K A ρ H σ sl ∧ OkS X.K A ρ H (forL j (fun x sl st => (evTg cl G ct x sl st).noExc.thenS sl fun sl st => evSs cl G cb sl st) m (i + 1) sl st) D W, fun σ' H' q => ⟨m, Nat.lt_succ_self _, q⟩, fun x H' y => ?_⟩
        obtain ⟨sy, Ry, rx⟩ := g2 x H' y
        have h := OkS.base h sy
        refine ⟨ρ, st, sl, t, Ry, S.step sy, rx, ?_⟩
        cases et2 : evTg cl G ct t sl st with
        | stuck => rw [et2] at h; exact h
        | exc x st2 => rw [et2] at h; exact h.elim
        | ok sl2 st2 =>
          rw [et2] at h
          intro σ2 H2 ρ2 s2 R2 r2
          have h := OkS.base h s2
          refine ⟨ρ2, st2, sl2, R2, r2.1, ?_⟩
          have s02 : Step X.K ρ1 H1 ρ2 H2 := (s.trans sy).trans s2
          cases ev : evSs cl G cb sl2 st2 with
          | nx sl3 st3 => simp only [PF.R.noExc, PF.R.thenS_ok, ev] at h; exact fun σ' H' ρ' s' R' S' => ⟨ρ', st3, sl3, s02.trans s', R', S', OkS.base h s'⟩
          | ct sl3 st3 => simp only [PF.R.noExc, PF.R.thenS_ok, ev] at h; exact fun σ' H' ρ' s' R' S' => ⟨ρ', st3, sl3, s02.trans s', R', S', OkS.base h s'⟩
          | bk sl3 st3 => simp only [PF.R.noExc, PF.R.thenS_ok, ev] at h; exact h
          | rt t st3 => simp only [PF.R.noExc, PF.R.thenS_ok, ev] at h; exact h
          | xc x sl3 st3 => simp only [PF.R.noExc, PF.R.thenS_ok, ev] at h; exact h
          | stuck => simp only [PF.R.noExc, PF.R.thenS_ok, ev] at h; exact h
      · exact h.elim
  · exact h1.elim
theorem s_raise (cx : CxE X A cl G ar C W) (hc : C.calm = true) {x m : Str} {p p2 p3 pos : Pos} {j : Nat} {i : Nat} (h1 : glB C.sc x = true) (h2 : ¬ x = "__debug__") (h3 : idx C.gn.cls x = some i) :
    PS X (.Raise (some (.Call (.Name x p) [.Constant (.str m) j p2] [] p3)) none pos) (gS X A cl G W (.raise i .nil)) := by
  obtain ⟨Ca, e1, e2, F⟩ := cx.cls i x (idx_some h3)
  refine ps_w (ps_raise (cx.calm hc) cx.tk (pmk_own PySem.F.excBase_ValueError F.ex e1 F.kp (raises_own F.sb F.ty) (gl_of cx h1) (neq_of h2))) fun D σ H h => ?_
  obtain ⟨ρ, st, sl, R, S, h⟩ := h
  unfold evS at h
  exact h (.ref Ca) none σ H ρ .refl R S ⟨Ca, e2, rfl, .inl ⟨rfl, rfl⟩⟩
theorem s_try (cx : CxS X A cl G ar C W) (ht : C.top = true) {x : Str} {np pos pos' : Pos} {b hs : List Stmt} {h0 : Stmt} {cb ch : Ss} {i : Nat} (h1 : glB C.sc x = true) (h2 : ¬ x = "__debug__") (h3 : idx C.gn.cls x = some i)
    (hb : ∀ (W : WX) (pn : List (Addr × Obj)) (xe : Value → Shared → Prop), Takes (X.tr pn xe) W → PassesOwn (model X.prog X.w) X.A X.env xe → PSs (X.tr pn xe) b (tSs X.K A cl G W cb))
    (hsu : ∀ (a : Addr) (oe : Obj) (pn : List (Addr × Obj)), PSs (X.suite a ((a, oe) :: pn)) (h0 :: hs) (tSs X.K A cl G WF0 ch)) :
    PS X (.Try b [.ExceptHandler (some (.Name x np)) none (h0 :: hs) pos'] [] [] pos) (gS X A cl G W (.tryS cb i none ch)) := by
  obtain ⟨Ca, e1, e2, F⟩ := cx.e.cls i x (idx_some h3)
  obtain ⟨t1, t2⟩ := cx.top ht
  refine ps_w (ps_try_only (ts := fun _ _ _ => tSs X.K A cl G WF0 ch) (tb := fun W => tSs X.K A cl G W cb) t1 t2 ⟨gl_of cx.e h1, neq_of h2, .inl e1⟩ cx.e.tk hb fun a oe cls d pn _ _ => hsu a oe pn) fun D σ H h => ?_
  obtain ⟨ρ, st, sl, R, S, h⟩ := h
  unfold evS at h
  refine ⟨ρ, st, sl, R, S, ?_⟩
  cases ev : evSs cl G cb sl st with
  | xc x sl1 st1 =>
    rw [ev] at h
    intro k d σ' H' ρ' s' R' S' rx
    obtain ⟨Cb, q1, rfl, _⟩ := rx
    simp only at h
    split at h
    · rename_i c
      rw [c.1, e2] at q1
      cases q1
      refine ⟨true, F.exm, fun _ a ha => ⟨ρ', st1, sl1, R', S', ?_⟩, fun z => by cases z⟩
      have h := OkS.base h s'
      revert h
      generalize evSs cl G ch sl1 st1 = r
      intro h
      cases r with
      | xc x sl2 st2 => exact h.elim
      | nx sl2 st2 => exact h
      | bk sl2 st2 => exact h
      | ct sl2 st2 => exact h
      | rt t st2 => exact h
      | stuck => exact h
    · exact h.elim
  | nx sl2 st2 => rw [ev] at h; exact h
  | bk sl2 st2 => rw [ev] at h; exact h
  | ct sl2 st2 => rw [ev] at h; exact h
  | rt t st2 => rw [ev] at h; exact h
  | stuck => rw [ev] at h; exact h
theorem trE (cx : CxE X A cl G ar C W) {W' : WX} {pn : List (Addr × Obj)} {xe : Value → Shared → Prop} (tk : Takes (X.tr pn xe) W') : CxE (X.tr pn xe) A cl G ar C W' :=
  ⟨cx.calm, cx.N, cx.nd, cx.sc, cx.fnB, cx.units, tk, cx.top, cx.blt, cx.fns, cx.art, cx.cst, cx.cls, cx.own, cx.mak⟩
theorem suiteE (cx : CxE X A cl G ar C W) {a : Addr} {pn : List (Addr × Obj)} : CxE (X.suite a pn) A cl G ar { C with calm := false } WF0 :=
  have hf : ∀ (i : Nat) (x : Str), C.gn.fns[i]? = some x → ∃ f fd ps k, X.mg x = some (.ref f) ∧ PySem.W.keepIn X.K (.ref f) = true ∧ Binds X.K fd ps [] ∧ FnOk X.prog X.w X.K X.mg X.base (L2.CX X.prog X.w) k f fd ps (spEv X.K A cl ar i) ∧ ((X.suite a pn).calm = true → Room k (X.suite a pn).A) := fun i x e => by
    obtain ⟨f, fd, ps, k, q1, q2, q3, q4, q5⟩ := cx.fns i x e
    exact ⟨f, fd, ps, k, q1, q2, q3, q4, fun z => by cases z⟩
  { calm := fun z => (by cases z), N := cx.N, nd := cx.nd, sc := cx.sc, fnB := cx.fnB, units := cx.units, tk := takes0, top := cx.top, blt := cx.blt, fns := hf, art := cx.art, cst := cx.cst, cls := cx.cls
    own := fun c OC e => by
      obtain ⟨Ca, q1, q2, q3, q4⟩ := cx.own c OC e
      refine ⟨Ca, q1, q2, q3, fun m i e2 => ?_⟩
      obtain ⟨f, fd, ps, k, r1, r2, r3, r4⟩ := q4 m i e2
      exact ⟨f, fd, ps, k, r1, r2, r3, fun z => by cases z⟩
    mak := fun c x e => by
      obtain ⟨Ca, i, f, q1, q2, q3, q4, q5⟩ := cx.mak c x e
      refine ⟨Ca, i, f, q1, q2, q3, q4, ?_⟩
      rcases q5 with q5 | ⟨fd, ps, k, r2, r3, r4⟩
      · exact .inl q5
      · exact .inr ⟨fd, ps, k, r2, r3, fun z => by cases z⟩ }
structure AllS (n : Nat) : Prop where
  s : ∀ {C : Cmp} {s : Stmt} {c : S}, compS n C s = some c → ∀ {X : Cx} {A : Ad} {cl : Call} {G : Tab} {ar : Nat → Nat} {W : WX}, CxS X A cl G ar C W → PS X s (gS X A cl G W c)
  ss : ∀ {C : Cmp} {ss : List Stmt} {c : Ss}, compSs n C ss = some c → ∀ {X : Cx} {A : Ad} {cl : Call} {G : Tab} {ar : Nat → Nat} {W : WX}, CxS X A cl G ar C W → PSs X ss (gSs X A cl G W c)
end
end PF

end

section
set_option Elab.async false
set_option linter.all false
set_option maxRecDepth 100000
set_option maxHeartbeats 8000000
set_option autoImplicit false
/-! PfE2: all statements; defs. -/
namespace PF
open PySem L2 PySem.Spec PyProof.Rows
/-- {..: .. for ..} stored in a name -/
theorem ps_setDc {X : Cx} {i : Nat} {y : Str} {py : Pos} {kx vx tg iter : Expr} {ifs : List Expr} {scope : Scope} {own : List (Str × Nat)} {pos spos : Pos} {wi : TI} {g : TG} {tt : TT} {tk tv : TE} (hc : X.calm = true) (hN : X.N.Nodup) (hy : X.N[i]? = some y) (hyl : X.env.scope.names.lookup y = some .local)
    (hsw : swapsWith (.DictComp kx vx [⟨tg, iter, ifs, 0⟩] scope pos) (some (.Name y py)) spos.line X.env = pure true) (hi : PI X tg iter wi) (ok : BlkOk X.N X.env.scope scope own)
    (hg : ∀ (s : Shared) (H : Hp) (Cc : Addr) (cls : List (Str × Addr)) (fp : List Addr), PG (X.blk s H scope (compEnvC scope cls Cc X.env) fp) tg g) (ht : ∀ (s : Shared) (H : Hp) (Cc : Addr) (cls : List (Str × Addr)) (fp : List Addr), PTs (X.blk s H scope (compEnvC scope cls Cc X.env) fp) ifs tt)
    (hk : ∀ (s : Shared) (H : Hp) (Cc : Addr) (cls : List (Str × Addr)) (fp : List Addr), PE (X.blk s H scope (compEnvC scope cls Cc X.env) fp) kx tk)
    (he : ∀ (s : Shared) (H : Hp) (Cc : Addr) (cls : List (Str × Addr)) (fp : List Addr), PE (X.blk s H scope (compEnvC scope cls Cc X.env) fp) vx tv) (hs : ∀ x, foldedSetIterable iter X.env x = pure x) :
    PS X (.Assign [.Name y py] (.DictComp kx vx [⟨tg, iter, ifs, 0⟩] scope pos) spos) (tAsg (tDc wi g tt tk tv (own.map (·.2))) (gName i)) := by
  refine ⟨fun pins s σ H D I h => ?_⟩
  rw [exec_Assign_Name_used _ _ _ _ hsw]
  refine wpAny_bind (wpAny_standAt (wpAny_bind ?_))
  show wpAny _ X.A (do let _ ← comprehension (.DictComp kx vx [⟨tg, iter, ifs, 0⟩] scope pos) scope X.env (firstIterPos [⟨tg, iter, ifs, 0⟩] pos) newDict false (eval iter X.env) (some (assign (.Name y py) X.env))) _ _ s
  have h : tDc wi g tt tk tv (own.map (·.2)) σ H (fun x H1 => gName i x σ H1 D.nx) := h
  refine wpAny_bind (thn (dc_core (Qf := fun _ s' => SP X pins D .next s') hc hN I hi ok hg ht hk he hs h fun L Cc s' m H' I' q hn f => ?_) fun _ s' hq => wpAny_pure (wpAny_pure hq))
  show wpAny _ _ (assign (.Name y py) X.env (.ref L)) _ _ _
  refine wpAny_assign_Name (store_ok2 (v := V.ref L) I' hN hy (.inl hyl) rfl (fun s2 I2 ⟨a, sb, ha⟩ => ?_) (.inr hyl))
  obtain ⟨f0, f1, f2, f3, f4, f5⟩ := f
  have haC : Cc ≠ a := by
    rcases ha with z | z
    · rw [z]; exact f1
    · exact fun e => f4 y a z e.symm
  exact ⟨m, hn.sameBut sb haC, fun h3 sb3 => ⟨_, H', I2.turned (t' := s2.toks) (fun b o hb e => (sb3.2 b hb).trans e) f0 f1 f3 f4 f5, q⟩⟩
theorem s_setLc {n m : Nat} (ie : ∀ m, AllE m) {C : Cmp} {X : Cx} {A : Ad} {cl : Call} {G : Tab} {ar : Nat → Nat} {W : WX} (cx : CxE X A cl G ar C W) {e : Expr} {t : Str} {pt pos : Pos} {ce : E} {ct : Tg} (hcomp : isCompE e = true)
    (hx : isX ce = false) (h : compE n C e = some ce) (h2 : compTg m C (.Name t pt) = some ct) (hl : X.env.scope.names.lookup t = some .local) (hsw : swapsWith e (some (.Name t pt)) pos.line X.env = pure true) :
    PS X (.Assign [.Name t pt] e pos) (gS X A cl G W (.asg ct ce)) := by
  cases m with
  | zero => simp [compTg] at h2
  | succ m =>
    simp only [compTg] at h2
    split at h2
    · obtain ⟨i, e1, rfl⟩ := Option.map_eq_some_iff.mp h2
      have hi : X.N[i]? = some t := by rw [cx.N]; exact idx_some e1
      -- what is asked, with a lock behind it
      have red : ∀ D σ H, gS X A cl G W (.asg (.nm i) ce) D σ H → gE X A cl G W ce σ H fun x H1 => gName i x σ H1 D.nx := fun D σ H q => by
        have q := asg_red (e := .Name t pt) D σ H q
        obtain ⟨ρ, st, sl, R, S, q⟩ := q
        refine ⟨ρ, st, sl, R, S, q.mono (fun x H1 z => ?_) fun _ _ _ z => z⟩
        obtain ⟨ρ, st, sl, t, R, S, r, h⟩ := z
        unfold evTg at h
        exact h (σ.set i (some x)) H1 ρ .refl R ⟨S.set i r, fun vs hv => wipe_set (hv i (by simp [Tg.slots]))⟩
      have lk : ∀ D σ x H1, Fz (fun x H1 => gName i x σ H1 D.nx) x H1 → gName i x σ H1 (FzD D).nx := fun D σ x H1 q => by
        rcases q with q | ⟨p, u, rfl, e, mu, q⟩
        · exact .inl q
        · exact .inr ⟨p, u, e, mu, q⟩
      cases n with
      | zero => simp [compE] at h
      | succ n =>
        have ih := ie n
        cases e <;> first | (simp [isCompE] at hcomp; done) | skip
        · rename_i elt gs scope p
          simp only [compE] at h
          split at h
          all_goals first | (rename_i q; cases q; done) | (rename_i q _; cases q; done) | (cases h; done) | skip
          · rename_i q
            injection q with q1 q2 q3 q4
            subst q1; subst q2; subst q3; subst q4
            split at h
            · rename_i c1
              rw [Bool.and_eq_true] at c1
              split at h
              · rename_i e1 e2 e3 e4
                split at h
                · rename_i c2
                  have h := Option.some.inj h
                  split at h
                  · subst h; simp [isX] at hx
                  subst h
                  rw [Bool.and_eq_true] at c2
                  have hin : ∀ i ∈ Tg.slots _, i ∈ (ownOf C.N _).map (·.2) := fun i hi => by
                    have q := List.all_eq_true.mp c2.2 i hi
                    simpa using q
                  have hgg := fun s H Cc cls fp => ih.tg e2 (blkE cx s H Cc cls fp)
                  have htt := fun s H Cc cls fp => ih.fs e3 (blkE cx s H Cc cls fp)
                  have hee := fun s H Cc cls fp => (ih.ex e4 (blkE cx s H Cc cls fp)).1
                  exact ps_w (ps_fz (ps_setLc (cx.calm c1.2) cx.nd hi hl hsw (ih.it e1 cx) (ok_of cx c1.1) hgg htt hee fun x => fold_of e1 X.env x)) fun D σ H q => e_comp cx hin σ H _ _ (lk D σ) (red D σ H q)
                · cases h
              · cases h
            · cases h
          · rename_i q
            injection q with q1 q2 q3 q4
            subst q1; subst q2; subst q3; subst q4
            split at h
            · rename_i c1
              rw [Bool.and_eq_true] at c1
              split at h
              · rename_i e1 e2 e3 e5 e6 e7 e4
                split at h
                · rename_i c2
                  cases h
                  rw [Bool.and_eq_true, Bool.and_eq_true] at c2
                  have hin : ∀ i ∈ Tg.slots _, i ∈ (ownOf C.N _).map (·.2) := fun i hi => by
                    have q := List.all_eq_true.mp c2.1.2 i hi
                    simpa using q
                  have hin1 : ∀ i ∈ Tg.slots _, i ∈ (ownOf C.N _).map (·.2) := fun i hi => by
                    have q := List.all_eq_true.mp c2.2 i hi
                    simpa using q
                  have hgg := fun s H Cc cls fp => ih.tg e2 (blkE cx s H Cc cls fp)
                  have htt := fun s H Cc cls fp => ih.fs e3 (blkE cx s H Cc cls fp)
                  have hii := fun s H Cc cls fp => ih.it e5 (blkE cx s H Cc cls fp)
                  have hgg1 := fun s H Cc cls fp => ih.tg e6 (blkE cx s H Cc cls fp)
                  have htt1 := fun s H Cc cls fp => ih.fs e7 (blkE cx s H Cc cls fp)
                  have hee := fun s H Cc cls fp => (ih.ex e4 (blkE cx s H Cc cls fp)).1
                  exact ps_w (ps_fz (ps_setLc2 (cx.calm c1.2) cx.nd hi hl hsw (ih.it e1 cx) (ok_of cx c1.1) hin1 hgg htt hii hgg1 htt1 hee (fun x => fold_of e1 X.env x) (fun env x => fold_of e5 env x))) fun D σ H q => e_comp2 cx hin (fun _ h => h) σ H _ _ (lk D σ) (red D σ H q)
                · cases h
              · cases h
            · cases h
        · simp [compE] at h
        · rename_i kx vx gs scope p
          simp only [compE] at h
          split at h
          all_goals first | (rename_i q; cases q; done) | (rename_i q _; cases q; done) | (cases h; done) | skip
          rename_i q
          injection q with q1 q2 q3 q4 q5
          subst q1; subst q2; subst q3; subst q4; subst q5
          split at h
          · rename_i c1
            rw [Bool.and_eq_true] at c1
            split at h
            · rename_i e1 e2 e3 e4 e5
              split at h
              · rename_i c2
                cases h
                rw [Bool.and_eq_true] at c2
                have hin : ∀ i ∈ Tg.slots _, i ∈ (ownOf C.N _).map (·.2) := fun i hi => by
                  have q := List.all_eq_true.mp c2.2 i hi
                  simpa using q
                have hgg := fun s H Cc cls fp => ih.tg e2 (blkE cx s H Cc cls fp)
                have htt := fun s H Cc cls fp => ih.fs e3 (blkE cx s H Cc cls fp)
                have hkk := fun s H Cc cls fp => (ih.ex e4 (blkE cx s H Cc cls fp)).1
                have hee := fun s H Cc cls fp => (ih.ex e5 (blkE cx s H Cc cls fp)).1
                exact ps_w (ps_fz (ps_setDc (cx.calm c1.2) cx.nd hi hl hsw (ih.it e1 cx) (ok_of cx c1.1) hgg htt hkk hee fun x => fold_of e1 X.env x)) fun D σ H q => e_dcomp cx hin σ H _ _ (lk D σ) (red D σ H q)
              · cases h
            · cases h
          · cases h
    · cases h2
theorem allS : ∀ n, AllS n
  | 0 => ⟨fun h => by simp [compS] at h, fun h => by simp [compSs] at h⟩
  | n + 1 => by
    have ih := allS n
    have ie' := allE
    have ie := allE n
    constructor
    · intro C s c h X A cl G ar W cx
      simp only [compS] at h
      split at h
      · split at h
        · rename_i c1
          rw [Bool.and_eq_true] at c1
          split at h
          · rename_i e1 e2 e3 e4
            split at h
            · cases h
            · rename_i c2
              cases h
              exact s_par cx.e c1.2 c1.1 e1 e2 c2 e3 e4 (ie.ex e3 cx.e).1 (ie.ex e4 cx.e).1
          · cases h
        · split at h
          · rename_i c2
            split at h
            · rename_i e1 e2
              cases h
              exact s_asg cx.e e2 e1 (ie.ex e2 cx.e).1 (ie.tg e1 cx.e) (fun _ _ => folded_none c2) (fun q => by cases q)
            · cases h
          · cases h
      · split at h
        · rename_i c2
          split at h
          · rename_i e1 e2
            cases h
            exact s_asg cx.e e2 e1 (ie.ex e2 cx.e).1 (ie.tg e1 cx.e) (fun _ _ => folded_none c2) (fun q => by cases q)
          · cases h
        · cases h
      · rename_i hn1 hn2
        split at h
        · rename_i e1 e2
          rename_i tg0 e0 _ _ _ ct0 ce0
          have hx : isX ce0 = false := by
            cases q : isX ce0 with
            | false => rfl
            | true => rw [q, if_pos rfl] at h; cases h
          rw [hx, if_neg (by decide)] at h
          cases h
          refine s_asg cx.e e2 e1 (ie.ex e2 cx.e).1 (ie.tg e1 cx.e) (fun z z' => ?_) ?_
          · cases tg0 <;> first | (cases z; done) | skip
            cases e0 <;> first | (cases z'; done) | (exact (hn2 _ _ _ _ _ _ rfl rfl).elim)
          · intro t pt hcmp ht hl hsw
            subst ht
            exact s_setLc ie' cx.e hcmp hx e2 e1 hl hsw
        · cases h
      · split at h
        · split at h
          · rename_i c1
            split at h
            · rename_i e1 e2
              cases h
              exact s_aug cx.e (.inl rfl) c1 e1 (ie.ex e2 cx.e).1
            · cases h
          · cases h
        · split at h
          · rename_i c1
            split at h
            · rename_i e1 e2
              cases h
              exact s_aug cx.e (.inr rfl) c1 e1 (ie.ex e2 cx.e).1
            · cases h
          · cases h
        · cases h
      · cases h; exact s_pass ps_doc
      · split at h
        · cases h
        · rename_i c1
          obtain ⟨t, e1, rfl⟩ := Option.map_eq_some_iff.mp h
          exact s_expr e1 (by simpa using c1) (ie.ex e1 cx.e).1
      · obtain ⟨t, e1, rfl⟩ := Option.map_eq_some_iff.mp h
        exact s_ret (ie.ex e1 cx.e).1
      · cases h; exact s_retN
      · cases h; exact s_pass ps_pass
      · cases h; exact s_brk
      · cases h; exact s_cnt
      · split at h
        · rename_i e1 e2 e3
          cases h
          exact s_if (ie.ex e1 cx.e).2 (ih.ss e2 cx) (ih.ss e3 cx)
        · cases h
      · split at h
        · split at h
          · rename_i e1 e2
            cases h
            exact s_while cx.po (ie.ex e1 cx.e).2 (ih.ss e2 cx)
          · cases h
        · cases h
      · split at h
        · rename_i c1
          split at h
          · rename_i e1 e2 e3
            cases h
            exact s_for cx.po (cx.e.calm c1) (ie.it e2 cx.e) (ie.tg e1 cx.e) (ih.ss e3 cx) (fold_of e2 _)
          · cases h
        · cases h
      · split at h
        · rename_i c1
          obtain ⟨t, e1, rfl⟩ := Option.map_eq_some_iff.mp h
          exact s_raise cx.e c1.2.2 c1.1 c1.2.1 e1
        · cases h
      · split at h
        · rename_i c1
          split at h
          · rename_i e1 e2 e3
            cases h
            refine s_try cx c1.2.2.2 c1.1 c1.2.1 e2 (fun W' pn xe tk po => ?_) (fun a oe pn => ?_)
            · exact ih.ss e1 (X := X.tr pn xe) ⟨trE cx.e tk, po, fun _ => cx.top c1.2.2.2⟩
            · exact ih.ss e3 (X := X.suite a ((a, oe) :: pn)) ⟨suiteE cx.e, PassesOwn.never, fun _ => cx.top c1.2.2.2⟩
          · cases h
        · cases h
      · cases h
    · intro C ss c h X A cl G ar W cx
      simp only [compSs] at h
      split at h
      · cases h; exact ss_nil
      · split at h
        · rename_i e1 e2
          split at h
          · cases h
            exact ss_cons (ih.s e1 cx) (ih.ss e2 cx)
          · obtain ⟨i, e3, rfl⟩ := Option.map_eq_some_iff.mp h
            exact ss_cons (ih.s e1 cx) (ss_lock (ih.ss e2 cx))
        · cases h
end PF

end

section
set_option Elab.async false
set_option linter.all false
set_option maxRecDepth 100000
set_option maxHeartbeats 8000000
set_option autoImplicit false
/-! PfE3: what a call forgets; the defs of a text, all at once; the law's end. -/
namespace PF
open PySem L2 PySem.Spec PyProof.Rows
section
variable {K : PySem.W.Frag} {A : Ad} {ρ : List Addr} {H : Hp} {st : Store}
mutual
theorem RT.limit {n : Nat} : ∀ {v : V} {t : T}, RT K A ρ H v t → t.lim n = true → RT K A (ρ.take n) H v t
  | _, _, .non, _ => .non
  | _, _, .bl b, _ => .bl b
  | _, _, .int i, _ => .int i
  | _, _, .str x h, _ => .str x h
  | _, _, .tup h r, e => .tup h (RTs.limit r (by simpa [T.lim] using e))
  | _, _, .rol h r, e => .rol h (RTs.limit r (by simpa [T.lim] using e))
  | _, _, .ctp h r, e => .ctp h (RTs.limit r (by simpa [T.lim] using e))
  | _, _, .rod h r, e => .rod h (RKs.limit r (by simpa [T.lim] using e))
  | _, _, .ref (n := m) h, e => .ref (by
      have hm : m < n := by simpa [T.lim] using e
      rw [List.getElem?_take_of_lt hm]; exact h)
  | _, _, .fn h, _ => .fn h
theorem RTs.limit {n : Nat} : ∀ {vs : List V} {ts : List T}, RTs K A ρ H vs ts → T.lims n ts = true → RTs K A (ρ.take n) H vs ts
  | _, _, .nil, _ => .nil
  | _, _, .cons r rs, e => by
    have e' := e
    simp only [T.lims, Bool.and_eq_true] at e'
    exact .cons (RT.limit r e'.1) (RTs.limit rs e'.2)
theorem RKs.limit {n : Nat} : ∀ {ks : List (Key × V)} {kvs : List (T × T)}, RKs K A ρ H ks kvs → T.limK n kvs = true → RKs K A (ρ.take n) H ks kvs
  | _, _, .nil, _ => .nil
  | _, _, .cons a b r, e => by
    have e' := e
    simp only [T.limK, Bool.and_eq_true] at e'
    exact .cons (RT.limit a e'.1.1) (RT.limit b e'.1.2) (RKs.limit r e'.2)
end
theorem RFs.limit {n : Nat} : ∀ {gs : List (Str × V)} {fs : List (Str × T)}, RFs K A ρ H gs fs → (fs.all (·.2.lim n)) = true → RFs K A (ρ.take n) H gs fs
  | _, _, .nil, _ => .nil
  | _, _, .cons a r, h => by
    rw [List.all_cons, Bool.and_eq_true] at h
    exact .cons (a.limit h.1) (RFs.limit r h.2)
theorem RC.limit {n : Nat} {a : Addr} : ∀ {c : Cell}, RC K A ρ H a c → c.lim n = true → RC K A (ρ.take n) H a c
  | .lst ts, ⟨xs, h, r⟩, e => ⟨xs, h, r.limit e⟩
  | .dic kvs, ⟨ks, h, r⟩, e => ⟨ks, h, r.limit e⟩
  | .ins c fs, ⟨C, dx, gs, k, h, r⟩, e => ⟨C, dx, gs, k, h, r.limit e⟩
  | .dead, ⟨o, h⟩, _ => ⟨o, h⟩
theorem Rel.limit {n : Nat} (R : Rel K A ρ H st) (h : Closed (st.take n) n = true) : Rel K A (ρ.take n) H (st.take n) := by
  refine ⟨by rw [List.length_take, List.length_take, R.len], R.nd.sublist (List.take_sublist _ _), fun i a c e1 e2 => ?_⟩
  have hi : i < n := by
    have := (List.getElem?_eq_some_iff.mp e2).1
    rw [List.length_take] at this
    omega
  rw [List.getElem?_take_of_lt hi] at e1 e2
  refine (R.cell i a c e1 e2).limit ?_
  unfold Closed at h
  exact List.all_eq_true.mp h c (List.mem_of_getElem? (by rw [List.getElem?_take_of_lt hi]; exact e2))
/-- what a call has done to what stood before it -/
theorem Step.back {ρ' : List Addr} {H' : Hp} (s : Step K ρ H ρ' H') : Step K ρ H ρ H' := ⟨⟨List.prefix_rfl, s.tup, s.frz⟩, s.fr, fun a h => .inl h⟩
theorem take_pre {α : Type} {l l' : List α} (h : l <+: l') : l'.take l.length = l := by
  obtain ⟨r, rfl⟩ := h
  rw [List.take_left]
theorem gc_ok {r : R T} {Q : VK} {W : Value → Option Addr → Hp → Prop} (R : Rel K A ρ H st) (h : OkG K A (RT K A) ρ H (gc st.length r) Q W) : OkG K A (RT K A) ρ H r Q W := by
  have hn : ρ.length = st.length := R.len
  cases r with
  | stuck => exact h
  | exc x st' =>
    intro k d H' ρ' s R' rx
    simp only [gc] at h
    split at h
    · rename_i c
      simp only [Bool.and_eq_true, decide_eq_true_eq] at c
      have ep : ρ'.take st.length = ρ := by rw [← hn]; exact take_pre s.pre
      have R2 := R'.limit (n := st.length) c.1.1
      rw [ep] at R2
      obtain ⟨Ca, q1, q2, q3⟩ := rx
      refine h k d H' ρ s.back R2 ⟨Ca, q1, q2, ?_⟩
      rcases q3 with q3 | ⟨dd, gs, q3, q4, q5⟩
      · exact .inl q3
      · have q6 := q5.limit (n := st.length) c.2
        rw [ep] at q6
        exact .inr ⟨dd, gs, q3, q4, q6⟩
    · exact h k d H' ρ' s R' rx
  | ok v st' =>
    intro b H' ρ' s R' rv
    simp only [gc] at h
    split at h
    · rename_i c
      simp only [Bool.and_eq_true, decide_eq_true_eq] at c
      have ep : ρ'.take st.length = ρ := by rw [← hn]; exact take_pre s.pre
      have R2 := R'.limit (n := st.length) c.1
      rw [ep] at R2
      have s2 : Step K ρ H ρ H' := s.back
      split at h
      · rename_i cv
        have rv2 := rv.limit cv
        rw [ep] at rv2
        exact h b H' ρ s2 R2 rv2
      · rename_i cv
        split at h
        · rename_i m
          split at h
          · rename_i cc ec
            split at h
            · rename_i cl2
              cases rv with | ref ea =>
              rename_i a
              have hm : ¬ m < st.length := by simpa [T.lim] using cv
              have hna : a ∉ ρ := fun ha => by
                obtain ⟨i, hi⟩ := List.getElem?_of_mem ha
                have h1 : i < st.length := by rw [← hn]; exact (List.getElem?_eq_some_iff.mp hi).1
                have := nodup_idx R'.nd (pre_get s.pre hi) ea
                omega
              have rc := (R'.cell m a cc ea ec).limit cl2
              rw [ep] at rc
              have hnone : H a = none := by
                rcases s.fresh a (List.mem_of_getElem? ea) with q | q
                · exact absurd q hna
                · exact q
              have R3 := R2.push hna rc.app
              have hl : (st'.take st.length).length = st.length := by rw [List.length_take]; omega
              refine h (.ref a) H' (ρ ++ [a]) (s2.push (.inr hnone)) R3 (.ref ?_)
              have q := R2.idx (p := a)
              rw [hl] at q
              exact q
            · exact h b H' ρ' s R' rv
          · exact h b H' ρ' s R' rv
        · exact h b H' ρ' s R' rv
    · exact h b H' ρ' s R' rv
theorem toR_ok {r : RS} {Q : VK} {E : XK} (h : OkG K A (RT K A) ρ H r.toR Q E) : OkS K A ρ H r { nx := fun _ H' => Q .non H', rt := Q } (fun k d _ H' => E k d H') := by
  cases r with
  | nx sl st => exact fun σ' H' ρ' s R S => h .non H' ρ' s R .non
  | rt t st => exact fun v H' ρ' s R r => h v H' ρ' s R r
  | bk sl st => exact h.elim
  | ct sl st => exact h.elim
  | xc x sl st => exact fun k d σ' H' ρ' s R S rx => h k d H' ρ' s R rx
  | stuck => exact h
theorem start_ok {vs : List V} {ts : List T} {N : List Str} {a k : Nat} (r : RTs K A ρ H vs ts) (hl : ts.length = a) (hk : N.length = k) : RSl K A ρ H (L2.start N vs) (ts.map some ++ List.replicate (k - a) none) := by
  refine ⟨?_, fun i t e => ?_⟩
  · unfold L2.start
    rw [List.length_append, List.length_append, List.length_map, List.length_map, List.length_replicate, List.length_replicate, r.length, hl, hk]
  · have hi : i < ts.length := by
      by_cases hi : i < ts.length
      · exact hi
      · rw [List.getElem?_append_right (by rw [List.length_map]; omega), List.getElem?_replicate] at e
        split at e <;> cases e
    rw [List.getElem?_append_left (by rw [List.length_map]; exact hi), List.getElem?_map] at e
    obtain ⟨u, e1, e2⟩ := Option.map_eq_some_iff.mp e
    cases e2
    obtain ⟨v, e3, q⟩ := r.get e1
    refine ⟨v, ?_, q⟩
    unfold L2.start
    rw [List.getElem?_append_left (by rw [List.length_map, r.length]; exact hi), List.getElem?_map, e3]
    rfl
end

def ars (fns : List Fn) (i : Nat) : Nat := match fns[i]? with
  | some F => F.arity
  | none => match fns[i - BIG]? with
    | some F => F.arity
    | none => 0
/-- what is known of a def of the text -/
structure FnW (K : PySem.W.Frag) (mg : Str → Option Value) (gn : Gn) (F : Fn) (s : Stmt) (f : Addr) (fd : FuncData) (N : List Str) (m : Nat) : Prop where
  fn : ∃ q : Str, L2.Fun K q F.name s f fd
  mgf : gn.fns.contains F.name = true → mg F.name = some (.ref f)
  bd : ∀ us : List Value, us.length = F.ps.length → bindArgs fd ⟨us, []⟩ = pure (F.ps.zip us)
  sc : FnScope N F.ps (defScope s)
  cmp : compSs m ⟨N, defScope s, fun _ => true, true, true, gn⟩ (defBody s) = some F.body
  ar : F.ps.length = F.arity
  sl : N.length = F.slots
def FnT (K : PySem.W.Frag) (mg : Str → Option Value) (gn : Gn) (F : Fn) : Prop := ∃ (s : Stmt) (f : Addr) (fd : FuncData) (N : List Str) (m : Nat), FnW K mg gn F s f fd N m
structure Txt (K : PySem.W.Frag) (mg : Str → Option Value) (A : Ad) (fns : List Fn) (G : Tab) (gn : Gn) : Prop where
  all : ∀ F ∈ fns, FnT K mg gn F
  nms : gn.fns <+: fns.map (·.name)
  blt : ∀ x : Str, gn.blt.contains x = true → mg x = none
  cst : ∀ (i : Nat) (x : Str), gn.cst[i]? = some x → ∃ u v t, mg x = some u ∧ RelV v u ∧ G.consts[i]? = some t ∧ ∀ ρ H, RT K A ρ H v t
  cls : ∀ (i : Nat) (x : Str), gn.cls[i]? = some x → ∃ Ca, mg x = some (.ref Ca) ∧ A.ca i = some Ca ∧ ExcF K Ca
  big : fns.length ≤ BIG
  own : ∀ (c : Nat) (OC : OwnC), G.cls c = some OC → ∃ Ca, A.ca c = some Ca ∧ L2.Cls K Ca ∧ (∀ f : Str, OC.flds.contains f = true → NoAttr K Ca f) ∧
    ∀ (m : Str) (i : Nat), OC.mts.lookup m = some i → ∃ (F : Fn) (s : Stmt) (f : Addr) (fd : FuncData) (N : List Str) (mm : Nat), fns[i]? = some F ∧ FnW K mg gn F s f fd N mm ∧ Meth K Ca m f
  mak : ∀ (c : Nat) (x : Str), gn.own[c]? = some x → ∃ Ca i f, mg x = some (.ref Ca) ∧ A.ca (OFF + c) = some Ca ∧ G.init c = some i ∧ Mk K Ca f ∧
    ∃ (F : Fn) (s : Stmt) (fd : FuncData) (N : List Str) (mm : Nat), fns[i]? = some F ∧ FnW K mg gn F s f fd N mm
theorem run_big (fns : List Fn) (G : Tab) (h : fns.length ≤ BIG) {m i : Nat} {F : Fn} (e : fns[i]? = some F) (ts : List T) (st : Store) : run fns G (m + 1) (i + BIG) ts st = run fns G m i ts st := by
  have h0 : fns[i + BIG]? = none := List.getElem?_eq_none (by omega)
  conv => lhs; unfold run
  rw [h0]
  dsimp only
  rw [Nat.add_sub_cancel, e]
  rw [if_pos ⟨Nat.le_add_left _ _, rfl⟩]
theorem ars_big (fns : List Fn) (h : fns.length ≤ BIG) {i : Nat} {F : Fn} (e : fns[i]? = some F) : ars fns (i + BIG) = ars fns i := by
  have h0 : fns[i + BIG]? = none := List.getElem?_eq_none (by omega)
  unfold ars
  rw [h0]
  dsimp only
  rw [Nat.add_sub_cancel, e]
theorem run_art (fns : List Fn) (G : Tab) : ∀ (n i : Nat) (ts : List T) (st : Store), ts.length ≠ ars fns i → run fns G n i ts st = .stuck
  | 0, _, _, _, _ => rfl
  | n + 1, i, ts, st, h => by
    unfold run
    unfold ars at h
    split
    · rename_i F e
      rw [e] at h
      rw [if_neg h]
    · rename_i e
      split
      · rename_i c
        obtain ⟨F, eF⟩ := Option.isSome_iff_exists.mp c.2
        rw [e, eF] at h
        exact run_art fns G n _ ts st (by unfold ars; rw [eF]; exact h)
      · rfl
section
variable {P : Program} {w : World} {K : PySem.W.Frag} {mg : Str → Option Value} {base : Heap} {A : Ad} {fns : List Fn} {G : Tab} {gn : Gn}
theorem fn_all (X : Txt K mg A fns G gn) : ∀ (n i : Nat) (F : Fn), fns[i]? = some F → ∀ {s : Stmt} {f : Addr} {fd : FuncData} {N : List Str} {m : Nat}, FnW K mg gn F s f fd N m → FnOk P w K mg base (L2.CX P w) n f fd F.ps (spEv K A (run fns G n) (ars fns) i)
  | n, i, F, e, s, f, fd, N, m, Wt => by
    obtain ⟨⟨qn, hF⟩, hm, hb, S, hc, ha, hN⟩ := Wt
    have har : ars fns i = F.arity := by unfold ars; rw [e]
    have hlen : ∀ n vs H Q E, spEv K A (run fns G n) (ars fns) i vs H Q E → vs.length = F.ps.length := fun n vs H Q E h => by
      obtain ⟨ρ, st, ts, R, r, hl, _⟩ := h
      rw [r.length, hl, har, ha]
    cases n with
    | zero =>
      have no : ∀ vs H Q E, ¬ spEv K A (run fns G 0) (ars fns) i vs H Q E := fun vs H Q E h => by
        obtain ⟨ρ, st, ts, R, r, hl, h⟩ := h
        exact h
      exact ⟨fun vs H Q E h => absurd h (no vs H Q E), fun A outer s H args us vs Q E _ _ _ _ h => absurd h (no vs H Q E)⟩
    | succ n =>
      refine hF.okX S (hlen (n + 1)) fun cdv Ar outer s0 H vs Q E hr h => ?_
      obtain ⟨ρ, st, ts, R, r, hl, h⟩ := h
      rw [har] at hl
      unfold run at h
      rw [e] at h
      simp only [hl, if_true] at h
      have h' : OkG K A (RT K A) ρ H (evSs (run fns G n) G F.body (ts.map some ++ List.replicate (F.slots - F.arity) none) st).toR Q E := by
        cases hg : F.gc with
        | true => rw [hg] at h; exact gc_ok R h
        | false => rw [hg] at h; exact h
      have cxE : CxE (cxOf (L2.CX P w) P w K mg base N F.name (defScope s) f cdv Ar outer s0 H E) A (run fns G n) G (ars fns) ⟨N, defScope s, fun _ => true, true, true, gn⟩ (fun k d _ H' => E k d H') :=
        { calm := fun _ => rfl, N := rfl, nd := S.nd, sc := rfl, fnB := rfl,
          units := by have := hr.un; show (Ar.deeper _).units + 190 < cLine; omega
          tk := takes_of rfl rfl rfl rfl
          top := fun _ => ⟨rfl, rfl⟩
          blt := X.blt
          fns := fun j x ej => by
            have ej' := pre_get X.nms ej
            rw [List.getElem?_map] at ej'
            obtain ⟨F', e', rfl⟩ := Option.map_eq_some_iff.mp ej'
            obtain ⟨s', f', fd', N', m', W'⟩ := X.all F' (List.mem_of_getElem? e')
            obtain ⟨qn', hF'⟩ := W'.fn
            exact ⟨f', fd', F'.ps, n, W'.mgf (by simpa using List.mem_of_getElem? ej), hF'.kp, .all W'.bd, fn_all X n j F' e' W', fun _ => hr⟩
          art := run_art fns G n
          cst := X.cst
          cls := X.cls
          own := fun c OC e => by
            obtain ⟨Ca, q1, q2, q3, q4⟩ := X.own c OC e
            refine ⟨Ca, q1, q2, q3, fun m0 i0 e2 => ?_⟩
            obtain ⟨F', s', f', fd', N', mm, r1, r2, r3⟩ := q4 m0 i0 e2
            exact ⟨f', fd', F'.ps, n, r3, .all r2.bd, fn_all X n i0 F' r1 r2, fun _ => hr⟩
          mak := fun c x e => by
            obtain ⟨Ca, i0, f', q1, q2, q3, q4, F', s', fd', N', mm, r1, r2⟩ := X.mak c x e
            refine ⟨Ca, i0, f', q1, q2, q3, q4, ?_⟩
            cases n with
            | zero => exact .inl fun _ _ => rfl
            | succ n' =>
              refine .inr ⟨fd', F'.ps, n', .all r2.bd, (fn_all X n' i0 F' r1 r2).imp fun vs H Q E hh => ?_, fun _ => hr⟩
              obtain ⟨ρ, st, ts, R, r, hl, h⟩ := hh
              rw [run_big fns G X.big r1] at h
              rw [ars_big fns X.big r1] at hl
              exact ⟨ρ, st, ts, R, r, hl, h⟩ }
      refine ⟨_, (allS m).ss hc (W := fun k d _ H' => E k d H') (cl := run fns G n) (G := G) (ar := ars fns) (A := A) ⟨cxE, PassesOwn.leaving, fun _ => ⟨rfl, rfl⟩⟩, ?_⟩
      exact ⟨ρ, st, _, R, start_ok r hl hN, toR_ok h'⟩
termination_by n => n
end

theorem mem_lookup {m : Str} {i : Nat} : ∀ {l : List (Str × Nat)}, l.lookup m = some i → (m, i) ∈ l
  | [], h => by simp at h
  | (a, b) :: l, h => by
    rw [List.lookup_cons] at h
    by_cases e : m = a
    · subst e; simp at h; subst h; exact List.mem_cons_self
    · rw [beq_eq_false_iff_ne.mpr e] at h; exact List.mem_cons_of_mem _ (mem_lookup h)
theorem exm_self {K : PySem.W.Frag} {S : Addr} (h1 : PySem.W.subIn K (.ref S) (.type "BaseException") = some true) (h2 : PySem.W.isClsIn K S = true) (h3 : PySem.W.typeIn K (.ref S) = some (.type "type")) (h4 : PySem.W.subIn K (.ref S) (.ref S) = some true) :
    PySem.W.exmOne K (.ref S) (.ref S) = some true := by
  have e1 : (PySem.W.subIn K (.ref S) (.type "BaseException") == some true) = true := by rw [h1] <;> rfl
  have e2 : ((PySem.W.clsIn K S).isSome && PySem.W.typeIn K (.ref S) == some (.type "type")) = true := by
    have h2' : (PySem.W.clsIn K S).isSome = true := h2
    rw [h2', h3] <;> rfl
  show (if (PySem.W.subIn K (.ref S) (.type "BaseException") == some true) = true then (if ((PySem.W.clsIn K S).isSome && PySem.W.typeIn K (.ref S) == some (.type "type")) = true then PySem.W.subIn K (.ref S) (.ref S) else none) else none) = some true
  rw [if_pos e1, if_pos e2]
  exact h4
theorem ints_rts {K : PySem.W.Frag} {A : Ad} {ρ : List Addr} {H : Hp} : ∀ ns : List Int, RTs K A ρ H (ns.map V.int) (ns.map T.int)
  | [] => .nil
  | n :: ns => .cons (.int n) (ints_rts ns)
/-- the law, from its run -/
theorem law_walk {l : PySem.W.OpenLaw} {q : Program} {loose : List Str} {XP : (Str → Option Value) → Heap → Prop} {YP : World → Heap → Prop} {d : DefRec} {K : Params → PySem.W.Frag} {fns : List Fn} {G : Tab} {gn : Gn} {N i : Nat} {F : Fn} {x : Str}
    (hn : l.most = some 63) (hdf : d.params.defaults = []) (hr : Room N callerA) (hi : fns[i]? = some F) (hglob : gn.fns.contains F.name = true) (hname : F.name = d.name) (hps : F.ps = [x]) (har : F.arity = 1)
    (hY : ∀ (w : World) (h : Heap), YP w h → (K w.params).In h)
    (T : ∀ (w : World) (mg : Str → Option Value) (fa : Addr) (h : Heap), (K w.params).In h → h.Ns mainGlobals mg → mg d.name = some (.ref fa) → ∃ A : Ad, Txt (K w.params) mg A fns G gn)
    (hrun : ∀ ns : List Int, ns.length ≤ 63 → ∃ st, run fns G N i [.rol (ns.map .int)] [] = .ok (.bl true) st) :
    PySem.W.WalkO q loose XP YP l.row.toRowW d [] (fun f vs => PySem.call f vs) := by
  have har' : ars fns i = 1 := by unfold ars; rw [hi]; exact har
  refine L2.walk_of (n := 63) (k := N) (x := x) (CX := fun w => L2.CX l.prog w) (sp := fun w => fun vs H Q E => ∃ (a : Addr) (ns : List Int), vs = [.ref a] ∧ RoL (K w.params) H a (ns.map V.int) ∧ ns.length ≤ 63 ∧ ∀ H', Q (.bl true) H') hn (by decide) hdf hr hY ?_ ?_ ?_
  · intro w mg fa h KX hns hfa
    obtain ⟨A, X⟩ := T w mg fa h KX hns hfa
    obtain ⟨s, f, fd, Nn, m, Wt⟩ := X.all F (List.mem_of_getElem? hi)
    have q1 := Wt.mgf hglob
    have q3 := Wt.bd
    rw [hname, hfa] at q1
    cases q1
    rw [hps] at q3
    refine ⟨fd, fun s u => .of_eq (q3 [u] rfl), fun base _ _ => ?_⟩
    have q := fn_all (P := l.prog) (w := w) (base := base) X N i F hi Wt
    rw [hps] at q
    refine q.imp fun vs H Q E hh => ?_
    obtain ⟨a, ns, rfl, hR, h63, hQ⟩ := hh
    obtain ⟨st, hst⟩ := hrun ns h63
    refine ⟨[], [], [.rol (ns.map .int)], ⟨rfl, List.nodup_nil, fun i a c e => by simp at e⟩, .cons (.rol hR (ints_rts ns)) .nil, by rw [har']; rfl, ?_⟩
    rw [hst]
    intro v H' ρ' _ _ r
    cases r
    exact hQ H'
  · intro w H a ns hl hO hS
    refine ⟨a, ns, rfl, ?_, hl, fun _ => rfl⟩
    rcases hS with hS | hS
    · rcases hS with hS | hS
      · rcases hO a with z | ⟨o, xs, z⟩
        · rw [hS] at z; cases z
        · rw [hS] at z; cases z
      · exact .inl hS
    · exact .inr hS
  · intro w H s e s' c
    obtain ⟨_, _, _, _, _, _, _, _, _, _, _, _, z⟩ := c
    exact z.elim
end PF

end

section
set_option Elab.async false
set_option linter.all false
set_option maxRecDepth 10000
set_option autoImplicit false
/-! PfP1: the pure interpreter: defs that read no store but what they make themselves. Lists and dicts of their own are the slots' content. -/
namespace PF
open PySem

/-- what a slot holds: a value; a list or dict of one's own; one that is only read -/
inductive PC where
  | v (t : T) | l (xs : List T) | d (kvs : List (T × T)) | bl (xs : List T) | bd (kvs : List (T × T))
  deriving Inhabited
abbrev PSl := List (Option PC)
inductive PR (α : Type) where
  | ok (a : α) | exc (x : Ex) | stuck
def PR.bind {α β : Type} : PR α → (α → PR β) → PR β
  | .ok a, f => f a
  | .exc x, _ => .exc x
  | .stuck, _ => .stuck
theorem PR.bind_ok {α β : Type} {a : α} {f : α → PR β} : (PR.ok a).bind f = f a := rfl
theorem PR.bind_exc {α β : Type} {x : Ex} {f : α → PR β} : (PR.exc x : PR α).bind f = .exc x := rfl
theorem PR.bind_stuck {α β : Type} {f : α → PR β} : (PR.stuck : PR α).bind f = .stuck := rfl
def PR.ofOpt {α : Type} : Option α → PR α
  | some a => .ok a
  | none => .stuck
theorem PR.ofOpt_some {α : Type} {a : α} : PR.ofOpt (some a) = .ok a := rfl
def PR.noExc {α : Type} : PR α → PR α
  | .ok a => .ok a
  | _ => .stuck
theorem PR.noExc_ok {α : Type} {a : α} : (PR.ok a).noExc = .ok a := rfl
/-- a value -/
def PC.val : PC → PR T
  | .v t => .ok t
  | _ => .stuck
theorem PC.val_v {t : T} : (PC.v t).val = .ok t := rfl
def PC.arg : PC → PC
  | .l xs => .bl xs
  | .d kvs => .bd kvs
  | p => p
inductive PRS where
  | nx (sl : PSl) | rt (t : T) | bk (sl : PSl) | ct (sl : PSl) | xc (x : Ex) (sl : PSl) | stuck
def PR.thenS {α : Type} (sl : PSl) : PR α → (α → PRS) → PRS
  | .ok a, f => f a
  | .exc x, _ => .xc x sl
  | .stuck, _ => .stuck
theorem PR.thenS_ok {α : Type} {sl : PSl} {a : α} {f : α → PRS} : (PR.ok a).thenS sl f = f a := rfl
theorem PR.thenS_exc {α : Type} {sl : PSl} {x : Ex} {f : α → PRS} : (PR.exc x : PR α).thenS sl f = .xc x sl := rfl
def PRS.noXc : PRS → PRS
  | .xc _ _ => .stuck
  | r => r

/-! ### operations -/
def pseq : PC → Option (List T)
  | .v (.tup xs) => some xs
  | .v (.rol xs) => some xs
  | .v (.ctp xs) => some xs
  | .l xs => some xs
  | .bl xs => some xs
  | _ => none
/-- a for may not walk over a list of one's own, which its body may change -/
def pseqO (own : Bool) (a : PC) : Option (List T) := match a with
  | .l xs => if own then some xs else none
  | .bl xs => if own then some xs else none
  | a => pseq a
/-- .. or a dict's keys -/
def pwalk (own : Bool) (a : PC) : Option (List T) := match pseqO own a with
  | some xs => some xs
  | none => match a with
    | .v (.rod kvs) => some (kvs.map (·.1))
    | _ => none
def plst : PC → Option (List T)
  | .v (.rol xs) => some xs
  | .l xs => some xs
  | .bl xs => some xs
  | _ => none
def pmap : PC → Option (List (T × T))
  | .v (.rod kvs) => some kvs
  | .d kvs => some kvs
  | .bd kvs => some kvs
  | _ => none
def presD : PC → Option PyData
  | .v t => toD t
  | .l xs => (toDs xs).map .list
  | .bl xs => (toDs xs).map .list
  | _ => none
def peq (a b : PC) : Option Bool := match presD a, presD b with
  | some d, some e => if min d.depth e.depth ≤ 190 then some (d.eqv e) else none
  | _, _ => none
def ptru : PC → Option Bool
  | .v t => tru [] t
  | .l xs => some (!xs.isEmpty)
  | .bl xs => some (!xs.isEmpty)
  | .d kvs => some (!kvs.isEmpty)
  | .bd kvs => some (!kvs.isEmpty)
def ptruR (a : PC) : PR Bool := PR.ofOpt (ptru a)
def pvv (r : PR T) : PR PC := r.bind fun t => .ok (.v t)
def pbin (op : Operator) (a b : PC) : PR PC :=
  match op, a, b with
  | .Add, .v (.int i), .v (.int j) => .ok (.v (.int (i + j)))
  | .Sub, .v (.int i), .v (.int j) => .ok (.v (.int (i - j)))
  | .Mult, .v (.int i), .v (.int j) => if mulOk i j then .ok (.v (.int (i * j))) else .stuck
  | .FloorDiv, .v (.int i), .v (.int j) => if 0 < j ∧ inS P30 j = true then .ok (.v (.int (i / j))) else if j ≠ 0 ∧ j.natAbs.log2.blt 9000 = true then .ok (.v (.int (i.fdiv j))) else .stuck
  | .Mod, .v (.int i), .v (.int j) => if 0 < j then .ok (.v (.int (i % j))) else .stuck
  | .Add, .v (.str x), .v (.str y) => if x.length + y.length ≤ sizeLine then .ok (.v (.str (x ++ y))) else .stuck
  | .Add, .v (.tup x), .v (.tup y) => if x.length + y.length ≤ sizeLine then .ok (.v (.tup (x ++ y))) else .stuck
  | .Add, x, y => match plst x, plst y with
    | some x, some y => if x.length + y.length ≤ sizeLine then .ok (.v (.rol (x ++ y))) else .stuck
    | _, _ => .stuck
  | _, _, _ => .stuck
def pin (a b : PC) : Option Bool :=
  match a with
  | .v a => match pseq b with
    | some xs => if isFlat a && xs.all isFlat then some (xs.any fun y => eqF y a) else
        match toD a, toDs xs with
        | some d, some ds => if min (PyData.depthAll ds) d.depth ≤ 180 then some (ds.any fun z => PyData.eqv z d) else none
        | _, _ => none
    | none => match pmap b with
      | some kvs => if isKey a then some (dLook a kvs).isSome else none
      | none => none
  | _ => none
def pcmp (op : CmpOp) (a b : PC) : Option Bool :=
  match op with
  | .Eq => peq a b
  | .NotEq => (peq a b).map (!·)
  | .In => pin a b
  | .NotIn => (pin a b).map (!·)
  | op => match a, b with
    | .v a, .v b => cmpT op a b []
    | _, _ => none
def pix (a : PC) (i : PC) : Option T :=
  match pseq a with
  | some xs => match i with
    | .v (.int k) => (ixN xs.length k).bind fun j => xs[j]?
    | _ => none
  | none => match pmap a, i with
    | some kvs, .v i => if isKey i then dLook i kvs else none
    | _, _ => none
def pslc (a : PC) (lo hi : Option Int) : PR PC :=
  match a with
  | .v (.tup xs) => .ok (.v (.tup (cutT xs lo hi)))
  | a => match plst a with
    | some xs => .ok (.v (.rol (cutT xs lo hi)))
    | none => .stuck
def prev (a : PC) : PR PC :=
  match a with
  | .v (.tup xs) => .ok (.v (.tup xs.reverse))
  | a => match plst a with
    | some xs => .ok (.v (.rol xs.reverse))
    | none => .stuck
def pisi (ty : Ty) (a : PC) : PR PC :=
  match plst a with
  | some _ => .ok (.v (.bl (match ty with | .list => true | _ => false)))
  | none => match pmap a with
    | some _ => .ok (.v (.bl (match ty with | .dict => true | _ => false)))
    | none => match a with
      | .v t => PR.ofOpt ((isTy ty t).map fun b => .v (.bl b))
      | _ => .stuck
def pbfn (b : B) (as : List PC) : PR PC :=
  match b, as with
  | .len, [a] => match a with
    | .v (.str s) => if s.length ≤ sizeLine then .ok (.v (.int s.length)) else .stuck
    | a => match pseq a with
      | some xs => .ok (.v (.int xs.length))
      | none => match pmap a with
        | some kvs => .ok (.v (.int kvs.length))
        | none => .stuck
  | .abs, [.v (.int i)] => .ok (.v (.int (if i < 0 then -i else i)))
  | .int, [.v (.int i)] => .ok (.v (.int i))
  | .int, [.v (.bl b)] => .ok (.v (.int (if b then 1 else 0)))
  | .tuple, [a] => match pseq a with
    | some xs => .ok (.v (.tup xs))
    | none => .stuck
  | .list, [a] => match pseq a with
    | some xs => .ok (.v (.rol xs))
    | none => .stuck
  | .sum, [a] => match (plst a).bind intsOf with
    | some is => .ok (.v (.int is.sum))
    | none => .stuck
  | .all, [a] => match (plst a).bind boolsOf with
    | some bs => .ok (.v (.bl (bs.all id)))
    | none => .stuck
  | .any, [a] => match (plst a).bind boolsOf with
    | some bs => .ok (.v (.bl (bs.any id)))
    | none => .stuck
  | .min1, [a] => match (plst a).bind intsOf with
    | some is => if is.isEmpty then .stuck else .ok (.v (.int (minL is)))
    | none => match (plst a).bind minT with
      | some t => .ok (.v t)
      | none => .stuck
  | .max1, [a] => match (plst a).bind intsOf with
    | some is => if is.isEmpty then .stuck else .ok (.v (.int (maxL is)))
    | none => .stuck
  | .sorted, [a] => match (plst a).bind intsOf with
    | some is => .ok (.v (.rol ((isortI is).map .int)))
    | none => match (pmap a).bind fun kvs => intsOf (kvs.map (·.1)) with
      | some is => if is.length < 64 then .ok (.v (.rol ((isortI is).map .int))) else .stuck
      | none => match (plst a).bind sortT with
        | some us => .ok (.v (.rol us))
        | none => .stuck
  | .sset, [a] => match (pseq a).bind intsOf with
    | some is => if is.length < 60 then .ok (.v (.rol ((isortI (nubI is)).map .int))) else .stuck
    | none => .stuck
  | .min2, [.v (.int i), .v (.int j)] => .ok (.v (.int (if j < i then j else i)))
  | .max2, [.v (.int i), .v (.int j)] => .ok (.v (.int (if j > i then j else i)))
  | .repr, [.v (.bl b)] => .ok (.v (.str (reprB b)))
  | .isi ty, [a] => pisi ty a
  | _, _ => .stuck
/-- methods that only read -/
def pmfn (m : M) (o : PC) (as : List PC) : PR PC :=
  match m with
  | .get => match pmap o with
    | some kvs => match as with
      | [.v k] => if isKey k then .ok (.v ((dLook k kvs).getD .non)) else .stuck
      | [.v k, .v d] => if isKey k then .ok (.v ((dLook k kvs).getD d)) else .stuck
      | _ => .stuck
    | none => .stuck
  | .index => match o, as with
    | .v (.ctp xs), [.v (.str z)] => match (strsOf xs).bind (idxS z) with
      | some j => .ok (.v (.int j))
      | none => .stuck
    | _, _ => .stuck
  | _ => .stuck

def pmOk (m : M) (o : PC) : Bool := match m with
  | .get => (pmap o).isSome
  | .index => match o with | .v (.ctp _) => true | _ => false
  | _ => false

/-! ### what is walked -/
inductive PIt where
  | sq (xs : List T) | rng (lo : Int) (n : Nat) | rngC (lo c : Int) (n : Nat) | enum (xs : List T) | zip (xs ys : List T)
def PIt.len : PIt → Nat
  | .sq xs => xs.length
  | .rng _ n => n
  | .rngC _ _ n => n
  | .enum xs => xs.length
  | .zip xs ys => min xs.length ys.length
def PIt.get (i : Nat) : PIt → Option T
  | .sq xs => xs[i]?
  | .rng lo n => if i < n then some (.int (lo + i)) else none
  | .rngC lo c n => if i < n then some (.int (lo + i * c)) else none
  | .enum xs => pairT (some (.int i)) xs[i]?
  | .zip xs ys => pairT xs[i]? ys[i]?
def PIt.ofI : Itv → Option PIt
  | .rng lo n => some (.rng lo n)
  | .rngC lo c n => some (.rngC lo c n)
  | _ => none

/-! ### loops -/
def pforL (it : PIt) (body : T → PSl → PRS) : Nat → Nat → PSl → PRS
  | 0, _, sl => .nx sl
  | k + 1, i, sl => match it.get i with
    | some x => match body x sl with
      | .nx sl => pforL it body k (i + 1) sl
      | .ct sl => pforL it body k (i + 1) sl
      | .bk sl => .nx sl
      | r => r
    | none => .stuck
def pwhileL (c : PSl → PR Bool) (body : PSl → PRS) : Nat → PSl → PRS
  | 0, _ => .stuck
  | k + 1, sl => (c sl).thenS sl fun b => if b then match body sl with
      | .nx sl => pwhileL c body k sl
      | .ct sl => pwhileL c body k sl
      | .bk sl => .nx sl
      | r => r
    else .nx sl
def pcompL (it : PIt) (body : T → PR (Option T)) : Nat → Nat → List T → PR (List T)
  | 0, _, acc => .ok acc
  | k + 1, i, acc => match it.get i with
    | some x => (body x).bind fun o => match o with
      | none => pcompL it body k (i + 1) acc
      | some y => if acc.length < sizeLine then pcompL it body k (i + 1) (acc ++ [y]) else .stuck
    | none => .stuck
def pcompN (it : PIt) (body : T → List T → PR (List T)) : Nat → Nat → List T → PR (List T)
  | 0, _, acc => .ok acc
  | k + 1, i, acc => match it.get i with
    | some x => (body x acc).bind fun acc => pcompN it body k (i + 1) acc
    | none => .stuck
def pcompD (it : PIt) (body : T → PR (Option (T × T))) : Nat → Nat → List (T × T) → PR (List (T × T))
  | 0, _, acc => .ok acc
  | k + 1, i, acc => match it.get i with
    | some x => (body x).bind fun o => match o with
      | none => pcompD it body k (i + 1) acc
      | some y => if acc.length < sizeLine ∧ isKey y.1 = true then pcompD it body k (i + 1) (dPut y.1 y.2 acc) else .stuck
    | none => .stuck
def pwipe (sl : PSl) : List Nat → PSl
  | [] => sl
  | v :: vs => (pwipe sl vs).set v none

abbrev PCall := Nat → List PC → PR T
variable (cl : PCall) (G : Tab)
mutual
def pE : E → PSl → PR PC
  | .var i, sl => match sl[i]? with
    | some (some p) => .ok p
    | _ => .stuck
  | .cst t, _ => if t.lim 0 then .ok (.v t) else .stuck
  | .glb x, _ => match G.consts[x]? with
    | some t => if t.lim 0 then .ok (.v t) else .stuck
    | none => .stuck
  | .tup es, sl => (pEs es sl).bind fun ts => if ts.length ≤ sizeLine then .ok (.v (.tup ts)) else .stuck
  | .ctp es, sl => (pEs es sl).bind fun ts => if ts.length ≤ sizeLine then .ok (.v (.ctp ts)) else .stuck
  | .lst m es, sl => if m then .stuck else (pEs es sl).bind fun ts => if ts.length ≤ sizeLine then .ok (.v (.rol ts)) else .stuck
  | .dct m kvs, sl => if m then .stuck else (pKV kvs sl).bind fun kvs => if kvs.length ≤ 15 then .ok (.v (.rod (kvs.foldl (fun acc p => dPut p.1 p.2 acc) []))) else .stuck
  | .fz _, _ => .stuck
  | .rep m e k, sl => if m then .stuck else (pE e sl).bind fun x => x.val.bind fun x => (pE k sl).bind fun y => match y with
    | .v (.int k) => if inS P62 k = true ∧ k.toNat ≤ sizeLine then .ok (.v (.rol (List.replicate k.toNat x))) else .stuck
    | _ => .stuck
  | .bin op a b, sl => (pE a sl).bind fun x => (pE b sl).bind fun y => pbin op x y
  | .neg a, sl => (pE a sl).bind fun x => match x with
    | .v (.int i) => .ok (.v (.int (-i)))
    | _ => .stuck
  | .cmp op a b, sl => (pE a sl).bind fun x => (pE b sl).bind fun y => PR.ofOpt ((pcmp op x y).map fun b => .v (.bl b))
  | .chn op op' a b c, sl => (pE a sl).bind fun x => (pE b sl).bind fun y => (PR.ofOpt (pcmp op x y)).bind fun k =>
      if k then (pE c sl).bind fun z => PR.ofOpt ((pcmp op' y z).map fun b => .v (.bl b)) else .ok (.v (.bl false))
  | .and a b, sl => (pE a sl).bind fun x => (ptruR x).bind fun k => if k then pE b sl else .ok x
  | .or a b, sl => (pE a sl).bind fun x => (ptruR x).bind fun k => if k then .ok x else pE b sl
  | .not a, sl => (pE a sl).bind fun x => (ptruR x).bind fun k => .ok (.v (.bl (!k)))
  | .ite c a b, sl => (pE c sl).bind fun x => (ptruR x).bind fun k => if k then pE a sl else pE b sl
  | .call f es, sl => (pAs es sl).bind fun ps => (cl f ps).bind fun t => .ok (.v t)
  | .make _ _, _ => .stuck
  | .bcall b es, sl => (pAs es sl).bind fun ps => pbfn b ps
  | .mcall m o es, sl => (pE o sl).bind fun x => if pmOk m x then (pAs es sl).bind fun ps => pmfn m x ps else .stuck
  | .own _ _ _, _ => .stuck
  | .fld _ _, _ => .stuck
  | .ix a i, sl => (pE a sl).bind fun x => (pE i sl).bind fun y => PR.ofOpt ((pix x y).map .v)
  | .slc a lo hi, sl => (pE a sl).bind fun x => (pEo lo sl).bind fun l => (pEo hi sl).bind fun h => pslc x l h
  | .rev a, sl => (pE a sl).bind fun x => prev x
  | .comp m tg it c e own, sl => if m then .stuck else (pIt true it sl).bind fun J =>
      ((pcompL J (fun x => (pTg tg x (pwipe sl own)).bind fun sl' => (pC c sl').bind fun b =>
        if b then (pE e sl').bind fun y => y.val.bind fun y => .ok (some y) else .ok none) J.len 0 []).bind fun xs => .ok (.v (.rol xs))).noExc
  | .compx _ _ _ _ _, _ => .stuck
  | .comp2 m tg it c tg1 it1 c1 e own own1, sl => if m then .stuck else (pIt true it sl).bind fun J =>
      ((pcompN J (fun x acc => (pTg tg x (pwipe sl own)).bind fun sl' => (pC c sl').bind fun b =>
        if b then (pIt true it1 sl').bind fun J1 => pcompL J1 (fun x => (pTg tg1 x (pwipe sl' own1)).bind fun sl'' => (pC c1 sl'').bind fun b =>
              if b then (pE e sl'').bind fun y => y.val.bind fun y => .ok (some y) else .ok none) J1.len 0 acc
        else .ok acc) J.len 0 []).bind fun xs => .ok (.v (.rol xs))).noExc
  | .dcomp m tg it c k v own, sl => if m then .stuck else (pIt true it sl).bind fun J =>
      ((pcompD J (fun x => (pTg tg x (pwipe sl own)).bind fun sl' => (pC c sl').bind fun b =>
        if b then (pE k sl').bind fun y => y.val.bind fun y => (pE v sl').bind fun z => z.val.bind fun z => .ok (some (y, z)) else .ok none) J.len 0 []).bind fun xs => .ok (.v (.rod xs))).noExc
/-- values -/
def pEs : Es → PSl → PR (List T)
  | .nil, _ => .ok []
  | .cons e es, sl => (pE e sl).bind fun t => t.val.bind fun t => (pEs es sl).bind fun ts => .ok (t :: ts)
/-- arguments, own things among them -/
def pAs : Es → PSl → PR (List PC)
  | .nil, _ => .ok []
  | .cons e es, sl => (pE e sl).bind fun t => (pAs es sl).bind fun ts => .ok (t :: ts)
def pKV : KVs → PSl → PR (List (T × T))
  | .nil, _ => .ok []
  | .cons k v r, sl => (pE k sl).bind fun a => a.val.bind fun a => (pE v sl).bind fun b => b.val.bind fun b => (pKV r sl).bind fun r =>
      if isKey a then .ok ((a, b) :: r) else .stuck
def pEo : Eo → PSl → PR (Option Int)
  | .none, _ => .ok none
  | .some e, sl => (pE e sl).bind fun x => match x with
    | .v (.int i) => .ok (some i)
    | _ => .stuck
def pC : Eo → PSl → PR Bool
  | .none, _ => .ok true
  | .some e, sl => (pE e sl).bind fun x => ptruR x
def pIt (own : Bool) : It → PSl → PR PIt
  | .val e, sl => (pE e sl).bind fun x => PR.ofOpt ((pwalk own x).map .sq)
  | .range es, sl => (pEs es sl).bind fun xs => PR.ofOpt ((itRange xs).bind PIt.ofI)
  | .enum e, sl => (pE e sl).bind fun x => PR.ofOpt ((pseqO own x).map .enum)
  | .zip a b, sl => (pE a sl).bind fun x => (pE b sl).bind fun y => match pseqO own x, pseqO own y with
    | some xs, some ys => .ok (.zip xs ys)
    | _, _ => .stuck
/-- names alone -/
def pTg : Tg → T → PSl → PR PSl
  | .nm i, t, sl => .ok (sl.set i (some (.v t)))
  | .tup ts, t, sl => match t with
    | .tup xs => if xs.length = ts.len then pTgs ts xs sl else .stuck
    | .rol xs => if xs.length = ts.len then pTgs ts xs sl else .stuck
    | _ => .stuck
  | _, _, _ => .stuck
def pTgs : Tgs → List T → PSl → PR PSl
  | .nil, [], sl => .ok sl
  | .cons t ts, x :: xs, sl => (pTg t x sl).bind fun sl => pTgs ts xs sl
  | _, _, _ => .stuck
end
/-- a new list or dict of one's own -/
def pNew : E → PSl → PR PC
  | .lst true es, sl => (pEs cl G es sl).bind fun ts => if ts.length ≤ sizeLine then .ok (.l ts) else .stuck
  | .dct true kvs, sl => (pKV cl G kvs sl).bind fun kvs => if kvs.length ≤ 15 then .ok (.d (kvs.foldl (fun acc p => dPut p.1 p.2 acc) [])) else .stuck
  | .rep true e k, sl => (pE cl G (.rep false e k) sl).bind fun p => match p with
    | .v (.rol xs) => .ok (.l xs)
    | _ => .stuck
  | .bcall .listM es, sl => (pE cl G (.bcall .list es) sl).bind fun p => match p with
    | .v (.rol xs) => .ok (.l xs)
    | _ => .stuck
  | .comp true tg it c e own, sl => (pE cl G (.comp false tg it c e own) sl).bind fun p => match p with
    | .v (.rol xs) => .ok (.l xs)
    | _ => .stuck
  | .comp2 true tg it c tg1 it1 c1 e own own1, sl => (pE cl G (.comp2 false tg it c tg1 it1 c1 e own own1) sl).bind fun p => match p with
    | .v (.rol xs) => .ok (.l xs)
    | _ => .stuck
  | .dcomp true tg it c k v own, sl => (pE cl G (.dcomp false tg it c k v own) sl).bind fun p => match p with
    | .v (.rod xs) => .ok (.d xs)
    | _ => .stuck
  | _, _ => .stuck
def isNew : E → Bool
  | .lst true _ | .dct true _ | .rep true _ _ | .bcall .listM _ | .comp true _ _ _ _ _ | .comp2 true _ _ _ _ _ _ _ _ _ | .dcomp true _ _ _ _ _ _ => true
  | _ => false
/-- a store into a list or dict of one's own -/
def pPut (a : PC) (i v : T) : Option PC :=
  match a with
  | .l xs => match i with
    | .int k => (ixN xs.length k).map fun j => .l (xs.set j v)
    | _ => none
  | .d kvs => if isKey i ∧ kvs.length < sizeLine then some (.d (dPut i v kvs)) else none
  | _ => none
mutual
def pS : S → PSl → PRS
  | .asg tg e, sl => match tg with
    | .nm i => if isNew e then (pNew cl G e sl).thenS sl fun p => .nx (sl.set i (some p)) else ((pE cl G e sl).bind fun x => x.val).thenS sl fun x => .nx (sl.set i (some (.v x)))
    | .tup ts => ((pE cl G e sl).bind fun x => x.val).thenS sl fun x => (pTg cl G (.tup ts) x sl).noExc.thenS sl fun sl => .nx sl
    | .sub (.var i) j => match sl[i]? with
      | some (some p) => ((pE cl G e sl).bind fun x => x.val).thenS sl fun x => ((pE cl G j sl).bind fun y => y.val).noExc.thenS sl fun y => match pPut p y x with
        | some q => .nx (sl.set i (some q))
        | none => .stuck
      | _ => .stuck
    | _ => .stuck
  | .par i j a b, sl => ((pE cl G a sl).bind fun x => x.val).thenS sl fun x => ((pE cl G b sl).bind fun x => x.val).thenS sl fun y => .nx ((sl.set i (some (.v x))).set j (some (.v y)))
  | .aug i op e, sl => match sl[i]? with
    | some (some (.v x)) => (pE cl G e sl).thenS sl fun y => match x, y with
      | .int i0, .v (.int j0) => ((pbin op (.v (.int i0)) (.v (.int j0))).bind fun z => z.val).thenS sl fun z => .nx (sl.set i (some (.v z)))
      | _, _ => .stuck
    | _ => .stuck
  | .augF _ _ _ _, _ => .stuck
  | .fz i, sl => match sl[i]? with
    | some (some (.l xs)) => .nx (sl.set i (some (.v (.rol xs))))
    | some (some (.d kvs)) => .nx (sl.set i (some (.v (.rod kvs))))
    | _ => .stuck
  | .expr e, sl => match e with
    | .mcall .append (.var i) (.cons x .nil) => match sl[i]? with
      | some (some (.l xs)) => ((pE cl G x sl).bind fun x => x.val).thenS sl fun x => if xs.length < sizeLine then .nx (sl.set i (some (.l (xs ++ [x])))) else .stuck
      | _ => .stuck
    | .mcall .extend (.var i) (.cons x .nil) => match sl[i]? with
      | some (some (.l xs)) => (pE cl G x sl).thenS sl fun x => match plst x with
        | some ys => if xs.length + ys.length ≤ sizeLine then .nx (sl.set i (some (.l (xs ++ ys)))) else .stuck
        | none => .stuck
      | _ => .stuck
    | .mcall .update (.var i) (.cons x .nil) => match sl[i]? with
      | some (some (.d kvs)) => (pE cl G x sl).thenS sl fun x => match x with
        | .v (.rod more) => if kvs.length + more.length ≤ sizeLine then .nx (sl.set i (some (.d (more.foldl (fun acc p => dPut p.1 p.2 acc) kvs)))) else .stuck
        | _ => .stuck
      | _ => .stuck
    | e => (pE cl G e sl).thenS sl fun _ => .nx sl
  | .ret e, sl => match e with
    | .fz (.var i) => match sl[i]? with
      | some (some (.l xs)) => .rt (.rol xs)
      | some (some (.d kvs)) => .rt (.rod kvs)
      | _ => .stuck
    | e => ((pE cl G e sl).bind fun x => x.val).thenS sl fun x => .rt x
  | .retN, _ => .rt .non
  | .pass, sl => .nx sl
  | .brk, sl => .bk sl
  | .cnt, sl => .ct sl
  | .ifS c a b, sl => ((pE cl G c sl).bind fun x => ptruR x).thenS sl fun k => if k then pSs a sl else pSs b sl
  | .whl c b, sl => pwhileL (fun sl => (pE cl G c sl).bind fun x => ptruR x) (fun sl => pSs b sl) WF sl
  | .for tg it b, sl => (pIt cl G false it sl).thenS sl fun J => pforL J (fun x sl => (pTg cl G tg x sl).noExc.thenS sl fun sl => pSs b sl) J.len 0 sl
  | .raise c es, sl => match es with
    | .nil => .xc ⟨c, []⟩ sl
    | _ => .stuck
  | .tryS b c as h, sl => match pSs b sl with
    | .xc x sl => if x.cls = c ∧ as = none then (pSs h sl).noXc else .stuck
    | r => r
def pSs : Ss → PSl → PRS
  | .nil, sl => .nx sl
  | .cons s ss, sl => match pS s sl with
    | .nx sl => pSs ss sl
    | r => r
end
def PRS.toR : PRS → PR T
  | .nx _ => .ok .non
  | .rt t => .ok t
  | .xc x _ => .exc x
  | _ => .stuck
/-- no ref in it -/
abbrev Pur (t : T) : Prop := t.lim 0 = true
abbrev Purs (ts : List T) : Prop := T.lims 0 ts = true
abbrev PurK (ts : List (T × T)) : Prop := T.limK 0 ts = true
/-- all that the store names is in it -/
def Cls (st : Store) : Prop := ∀ c ∈ st, c.lim st.length = true
def RelA (st : Store) (t : T) : PC → Prop
  | .v u => t = u ∧ Pur u
  | .l xs => ∃ n, t = .ref n ∧ st[n]? = some (.lst xs) ∧ Purs xs
  | .bl xs => ∃ n, t = .ref n ∧ st[n]? = some (.lst xs) ∧ Purs xs
  | .d xs => ∃ n, t = .ref n ∧ st[n]? = some (.dic xs) ∧ PurK xs
  | .bd xs => ∃ n, t = .ref n ∧ st[n]? = some (.dic xs) ∧ PurK xs
inductive RelAs (st : Store) : List T → List PC → Prop
  | nil : RelAs st [] []
  | cons {t : T} {p : PC} {ts : List T} {ps : List PC} : RelA st t p → RelAs st ts ps → RelAs st (t :: ts) (p :: ps)
def PurX (x : Ex) : Prop := x.fs.all (·.2.lim 0) = true
open Classical in
/-- what a def's run tells, whatever the store: its pure meaning -/
noncomputable def semP (fns : List Fn) (G : Tab) (n f : Nat) (ps : List PC) : PR T :=
  if h : ∃ v, Pur v ∧ ∀ ts st, Cls st → RelAs st ts ps → run fns G n f ts st = .ok v st then .ok h.choose
  else if h : ∃ x, PurX x ∧ ∀ ts st, Cls st → RelAs st ts ps → run fns G n f ts st = .exc x st then .exc h.choose
  else .stuck
theorem semP_ok {fns : List Fn} {G : Tab} {n f : Nat} {ps : List PC} {v : T} (hv : Pur v) (h : ∀ ts st, Cls st → RelAs st ts ps → run fns G n f ts st = .ok v st) (hx : ∃ ts st, Cls st ∧ RelAs st ts ps) : semP fns G n f ps = .ok v := by
  have hh : ∃ v, Pur v ∧ ∀ ts st, Cls st → RelAs st ts ps → run fns G n f ts st = .ok v st := ⟨v, hv, h⟩
  unfold semP
  rw [dif_pos hh]
  obtain ⟨ts, st, hc, hr⟩ := hx
  have e := hh.choose_spec.2 ts st hc hr
  rw [h ts st hc hr] at e
  injection e with e1 _
  rw [← e1]
theorem semP_exc {fns : List Fn} {G : Tab} {n f : Nat} {ps : List PC} {x : Ex} (hv : PurX x) (h : ∀ ts st, Cls st → RelAs st ts ps → run fns G n f ts st = .exc x st) (hx : ∃ ts st, Cls st ∧ RelAs st ts ps) : semP fns G n f ps = .exc x := by
  have hh : ∃ x, PurX x ∧ ∀ ts st, Cls st → RelAs st ts ps → run fns G n f ts st = .exc x st := ⟨x, hv, h⟩
  obtain ⟨ts, st, hc, hr⟩ := hx
  have hn : ¬ ∃ v, Pur v ∧ ∀ ts st, Cls st → RelAs st ts ps → run fns G n f ts st = .ok v st := fun ⟨v, _, q⟩ => by
    have e := q ts st hc hr
    rw [h ts st hc hr] at e
    cases e
  unfold semP
  rw [dif_neg hn, dif_pos hh]
  have e := hh.choose_spec.2 ts st hc hr
  rw [h ts st hc hr] at e
  injection e with e1 _
  rw [← e1]
noncomputable def prun (fns : List Fn) (G : Tab) : Nat → PCall
  | 0, _, _ => .stuck
  | n + 1, f, ps => match fns[f]? with
    | some F => if F.sem then semP fns G (n + 1) f ps else if F.gc then if ps.length = F.arity then (pSs (prun fns G n) G F.body (ps.map (fun p => some p.arg) ++ List.replicate (F.slots - F.arity) none)).toR else .stuck else .stuck
    | none => .stuck
end PF

end

section
set_option Elab.async false
set_option linter.all false
set_option maxRecDepth 10000
set_option autoImplicit false
/-! PfF: reasoning about pure runs. -/
namespace PF
open PySem
/-! ### what is walked, as a list -/
def PIt.items : PIt → List T
  | .sq xs => xs
  | .rng lo n => (List.range n).map fun (i : Nat) => .int (lo + (i : Int))
  | .rngC lo c n => (List.range n).map fun (i : Nat) => .int (lo + (i : Int) * c)
  | .enum xs => (List.range xs.length).filterMap fun (i : Nat) => pairT (some (.int (i : Int))) xs[i]?
  | .zip xs ys => List.zipWith (fun x y => .tup [x, y]) xs ys
theorem fmap_congr {α β : Type} {f g : α → Option β} : ∀ {l : List α}, (∀ x ∈ l, f x = g x) → l.filterMap f = l.filterMap g
  | [], _ => rfl
  | a :: l, h => by rw [List.filterMap_cons, List.filterMap_cons, h a List.mem_cons_self, fmap_congr fun x hx => h x (List.mem_cons_of_mem _ hx)]
theorem enum_eq (xs : List T) : ∀ k, ((List.range' k xs.length).filterMap fun (i : Nat) => pairT (some (.int (i : Int))) xs[i - k]?) = xs.mapIdx fun i x => .tup [.int ((k + i : Nat) : Int), x] := by
  induction xs with
  | nil => intro k; rfl
  | cons x xs ih =>
    intro k
    rw [List.length_cons, List.range'_succ, List.filterMap_cons]
    have h := ih (k + 1)
    have : ((List.range' (k + 1) xs.length).filterMap fun (i : Nat) => pairT (some (.int (i : Int))) (x :: xs)[i - k]?) = (List.range' (k + 1) xs.length).filterMap fun (i : Nat) => pairT (some (.int (i : Int))) xs[i - (k + 1)]? := by
      apply fmap_congr
      intro i hi
      have hi := List.mem_range'_1.mp hi
      have e : i - k = (i - (k + 1)) + 1 := by omega
      rw [e, List.getElem?_cons_succ]
    rw [this, h, List.mapIdx_cons]
    simp only [Nat.sub_self, List.getElem?_cons_zero, pairT, Nat.add_zero]
    congr 1
    apply congrArg (fun f => List.mapIdx f xs)
    funext i x
    congr 3
    omega
theorem PIt.items_enum (xs : List T) : (PIt.enum xs).items = xs.mapIdx fun i x => .tup [.int (i : Int), x] := by
  have h := enum_eq xs 0
  simp only [Nat.sub_zero, Nat.zero_add] at h
  rw [← h, ← List.range_eq_range']
  rfl
theorem PIt.items_get (p : PIt) (i : Nat) : p.items[i]? = p.get i := by
  cases p with
  | sq xs => rfl
  | rng lo n =>
    simp only [PIt.items, PIt.get, List.getElem?_map]
    by_cases h : i < n
    · rw [List.getElem?_range h, if_pos h]; rfl
    · rw [List.getElem?_eq_none (by simpa using h), if_neg h]; rfl
  | rngC lo c n =>
    simp only [PIt.items, PIt.get, List.getElem?_map]
    by_cases h : i < n
    · rw [List.getElem?_range h, if_pos h]; rfl
    · rw [List.getElem?_eq_none (by simpa using h), if_neg h]; rfl
  | enum xs =>
    rw [PIt.items_enum, List.getElem?_mapIdx]
    simp only [PIt.get]
    cases xs[i]? <;> rfl
  | zip xs ys =>
    simp only [PIt.items, PIt.get, List.getElem?_zipWith]
    cases xs[i]? <;> cases ys[i]? <;> rfl
theorem PIt.items_len (p : PIt) : p.items.length = p.len := by
  cases p with
  | sq xs => rfl
  | rng lo n => simp [PIt.items, PIt.len]
  | rngC lo c n => simp [PIt.items, PIt.len]
  | enum xs => rw [PIt.items_enum]; simp [PIt.len]
  | zip xs ys => simp [PIt.items, PIt.len]
theorem it_sq {xs : List T} : (PIt.sq xs).items = xs := rfl
theorem it_rng {lo : Int} {n : Nat} : (PIt.rng lo n).items = (List.range n).map fun (i : Nat) => T.int (lo + (i : Int)) := rfl
theorem it_rngC {lo c : Int} {n : Nat} : (PIt.rngC lo c n).items = (List.range n).map fun (i : Nat) => T.int (lo + (i : Int) * c) := rfl
theorem it_zip {xs ys : List T} : (PIt.zip xs ys).items = List.zipWith (fun x y => .tup [x, y]) xs ys := rfl
def forI (body : T → PSl → PRS) : List T → PSl → PRS
  | [], sl => .nx sl
  | x :: xs, sl => match body x sl with
    | .nx sl => forI body xs sl
    | .ct sl => forI body xs sl
    | .bk sl => .nx sl
    | r => r
def compI (body : T → PR (Option T)) : List T → List T → PR (List T)
  | [], acc => .ok acc
  | x :: xs, acc => (body x).bind fun o => match o with
      | none => compI body xs acc
      | some y => if acc.length < sizeLine then compI body xs (acc ++ [y]) else .stuck
def compIN (body : T → List T → PR (List T)) : List T → List T → PR (List T)
  | [], acc => .ok acc
  | x :: xs, acc => (body x acc).bind fun acc => compIN body xs acc
def compID (body : T → PR (Option (T × T))) : List T → List (T × T) → PR (List (T × T))
  | [], acc => .ok acc
  | x :: xs, acc => (body x).bind fun o => match o with
      | none => compID body xs acc
      | some y => if acc.length < sizeLine ∧ isKey y.1 = true then compID body xs (dPut y.1 y.2 acc) else .stuck
theorem drop_at {α : Type} {l : List α} {i n : Nat} (h : i + (n + 1) = l.length) : ∃ x, l[i]? = some x ∧ l.drop i = x :: l.drop (i + 1) :=
  ⟨l[i]'(by omega), List.getElem?_eq_getElem (by omega), List.drop_eq_getElem_cons (by omega)⟩
theorem pforL_items (p : PIt) (body : T → PSl → PRS) : ∀ (n i : Nat) (sl : PSl), i + n = p.len → pforL p body n i sl = forI body (p.items.drop i) sl
  | 0, i, sl, e => by
    rw [List.drop_of_length_le (by rw [p.items_len]; omega)]; rfl
  | n + 1, i, sl, e => by
    obtain ⟨x, h1, h2⟩ := drop_at (l := p.items) (i := i) (n := n) (by rw [p.items_len]; exact e)
    rw [h2]
    rw [p.items_get] at h1
    unfold pforL forI
    rw [h1]
    dsimp only
    cases body x sl with
    | nx sl' => exact pforL_items p body n (i + 1) sl' (by omega)
    | ct sl' => exact pforL_items p body n (i + 1) sl' (by omega)
    | bk sl' => rfl
    | rt t => rfl
    | xc x sl' => rfl
    | stuck => rfl
theorem pcompL_items (p : PIt) (body : T → PR (Option T)) : ∀ (n i : Nat) (acc : List T), i + n = p.len → pcompL p body n i acc = compI body (p.items.drop i) acc
  | 0, i, acc, e => by rw [List.drop_of_length_le (by rw [p.items_len]; omega)]; rfl
  | n + 1, i, acc, e => by
    obtain ⟨x, h1, h2⟩ := drop_at (l := p.items) (i := i) (n := n) (by rw [p.items_len]; exact e)
    rw [h2]
    rw [p.items_get] at h1
    unfold pcompL compI
    rw [h1]
    dsimp only
    cases body x with
    | ok o =>
      cases o with
      | none => exact pcompL_items p body n (i + 1) acc (by omega)
      | some y =>
        rw [PR.bind_ok, PR.bind_ok]
        dsimp only
        split
        · exact pcompL_items p body n (i + 1) _ (by omega)
        · rfl
    | exc x => rfl
    | stuck => rfl
theorem pcompN_items (p : PIt) (body : T → List T → PR (List T)) : ∀ (n i : Nat) (acc : List T), i + n = p.len → pcompN p body n i acc = compIN body (p.items.drop i) acc
  | 0, i, acc, e => by rw [List.drop_of_length_le (by rw [p.items_len]; omega)]; rfl
  | n + 1, i, acc, e => by
    obtain ⟨x, h1, h2⟩ := drop_at (l := p.items) (i := i) (n := n) (by rw [p.items_len]; exact e)
    rw [h2]
    rw [p.items_get] at h1
    unfold pcompN compIN
    rw [h1]
    dsimp only
    cases body x acc with
    | ok o => exact pcompN_items p body n (i + 1) _ (by omega)
    | exc x => rfl
    | stuck => rfl
theorem pcompD_items (p : PIt) (body : T → PR (Option (T × T))) : ∀ (n i : Nat) (acc : List (T × T)), i + n = p.len → pcompD p body n i acc = compID body (p.items.drop i) acc
  | 0, i, acc, e => by rw [List.drop_of_length_le (by rw [p.items_len]; omega)]; rfl
  | n + 1, i, acc, e => by
    obtain ⟨x, h1, h2⟩ := drop_at (l := p.items) (i := i) (n := n) (by rw [p.items_len]; exact e)
    rw [h2]
    rw [p.items_get] at h1
    unfold pcompD compID
    rw [h1]
    dsimp only
    cases body x with
    | ok o =>
      cases o with
      | none => exact pcompD_items p body n (i + 1) acc (by omega)
      | some y =>
        rw [PR.bind_ok, PR.bind_ok]
        dsimp only
        split
        · exact pcompD_items p body n (i + 1) _ (by omega)
        · rfl
    | exc x => rfl
    | stuck => rfl

section
variable {cl : PCall} {G : Tab}
/-- the body of a comprehension -/
abbrev cB (cl : PCall) (G : Tab) (tg : Tg) (c : Eo) (e : E) (own : List Nat) (sl : PSl) : T → PR (Option T) := fun x => (pTg cl G tg x (pwipe sl own)).bind fun sl' => (pC cl G c sl').bind fun b =>
  if b then (pE cl G e sl').bind fun y => y.val.bind fun y => .ok (some y) else .ok none
abbrev cBD (cl : PCall) (G : Tab) (tg : Tg) (c : Eo) (k v : E) (own : List Nat) (sl : PSl) : T → PR (Option (T × T)) := fun x => (pTg cl G tg x (pwipe sl own)).bind fun sl' => (pC cl G c sl').bind fun b =>
  if b then (pE cl G k sl').bind fun y => y.val.bind fun y => (pE cl G v sl').bind fun z => z.val.bind fun z => .ok (some (y, z)) else .ok none
theorem pE_comp {tg : Tg} {it : It} {c : Eo} {e : E} {own : List Nat} {sl : PSl} : pE cl G (.comp false tg it c e own) sl = (pIt cl G true it sl).bind fun J => ((compI (cB cl G tg c e own sl) J.items []).bind fun xs => .ok (.v (.rol xs))).noExc := by
  conv => lhs; unfold pE
  simp only [Bool.false_eq_true, if_false]
  congr 1
  funext J
  rw [pcompL_items J _ J.len 0 [] (Nat.zero_add _), List.drop_zero]
theorem pE_comp2 {tg tg1 : Tg} {it it1 : It} {c c1 : Eo} {e : E} {own own1 : List Nat} {sl : PSl} : pE cl G (.comp2 false tg it c tg1 it1 c1 e own own1) sl = (pIt cl G true it sl).bind fun J => ((compIN (fun x acc => (pTg cl G tg x (pwipe sl own)).bind fun sl' => (pC cl G c sl').bind fun b =>
        if b then (pIt cl G true it1 sl').bind fun J1 => compI (cB cl G tg1 c1 e own1 sl') J1.items acc else .ok acc) J.items []).bind fun xs => .ok (.v (.rol xs))).noExc := by
  conv => lhs; unfold pE
  simp only [Bool.false_eq_true, if_false]
  congr 1
  funext J
  rw [pcompN_items J _ J.len 0 [] (Nat.zero_add _), List.drop_zero]
  congr 3
  funext x acc
  congr 1; funext sl'; congr 1; funext b
  split
  · congr 1; funext J1
    rw [pcompL_items J1 _ J1.len 0 acc (Nat.zero_add _), List.drop_zero]
  · rfl
theorem pE_dcomp {tg : Tg} {it : It} {c : Eo} {k v : E} {own : List Nat} {sl : PSl} : pE cl G (.dcomp false tg it c k v own) sl = (pIt cl G true it sl).bind fun J => ((compID (cBD cl G tg c k v own sl) J.items []).bind fun xs => .ok (.v (.rod xs))).noExc := by
  conv => lhs; unfold pE
  simp only [Bool.false_eq_true, if_false]
  congr 1
  funext J
  rw [pcompD_items J _ J.len 0 [] (Nat.zero_add _), List.drop_zero]
theorem pS_for {tg : Tg} {it : It} {b : Ss} {sl : PSl} : pS cl G (.for tg it b) sl = (pIt cl G false it sl).thenS sl fun J => forI (fun x sl => (pTg cl G tg x sl).noExc.thenS sl fun sl => pSs cl G b sl) J.items sl := by
  conv => lhs; unfold pS
  congr 1
  funext J
  rw [pforL_items J _ J.len 0 sl (Nat.zero_add _), List.drop_zero]
end

/-! ### loops by invariants -/
theorem forI_ind {body : T → PSl → PRS} {P : PRS → Prop} (I : List T → PSl → Prop) (nil : ∀ sl, I [] sl → P (.nx sl))
    (step : ∀ x xs sl, I (x :: xs) sl → match body x sl with
      | .nx sl' => I xs sl'
      | .ct sl' => I xs sl'
      | .bk sl' => P (.nx sl')
      | r => P r) : ∀ (xs : List T) (sl : PSl), I xs sl → P (forI body xs sl)
  | [], sl, h => nil sl h
  | x :: xs, sl, h => by
    unfold forI
    have q := step x xs sl h
    cases e : body x sl with
    | nx sl' => rw [e] at q; exact forI_ind I nil step xs sl' q
    | ct sl' => rw [e] at q; exact forI_ind I nil step xs sl' q
    | bk sl' => rw [e] at q; exact q
    | rt t => rw [e] at q; exact q
    | xc x sl' => rw [e] at q; exact q
    | stuck => rw [e] at q; exact q
/-- .. by the place -/
theorem for_idx {body : T → PSl → PRS} {P : PRS → Prop} (I : Nat → PSl → Prop) (X : List T) {sl : PSl} (h0 : I 0 sl)
    (step : ∀ i x sl, X[i]? = some x → I i sl → match body x sl with
      | .nx sl' => I (i + 1) sl'
      | .ct sl' => I (i + 1) sl'
      | .bk sl' => P (.nx sl')
      | r => P r) (fin : ∀ sl, I X.length sl → P (.nx sl)) : P (forI body X sl) := by
  refine forI_ind (P := P) (fun xs sl => ∃ i, i + xs.length = X.length ∧ xs = X.drop i ∧ I i sl) ?_ ?_ _ _ ⟨0, by simp, rfl, h0⟩
  · rintro sl ⟨i, e, _, h⟩
    simp only [List.length_nil, Nat.add_zero] at e
    subst e
    exact fin sl h
  · rintro x xs sl ⟨i, e, e2, h⟩
    simp only [List.length_cons] at e
    have hi : i < X.length := by omega
    rw [List.drop_eq_getElem_cons hi] at e2
    injection e2 with e3 e4
    have q := step i x sl (by rw [List.getElem?_eq_getElem hi, e3]) h
    cases hb : body x sl with
    | nx sl' => rw [hb] at q; exact ⟨i + 1, by omega, e4, q⟩
    | ct sl' => rw [hb] at q; exact ⟨i + 1, by omega, e4, q⟩
    | bk sl' => rw [hb] at q; exact q
    | rt t => rw [hb] at q; exact q
    | xc x sl' => rw [hb] at q; exact q
    | stuck => rw [hb] at q; exact q
/-- .. of a range -/
theorem for_rng {body : T → PSl → PRS} {P : PRS → Prop} (I : Nat → PSl → Prop) (n : Nat) (f : Nat → T) {sl : PSl} (h0 : I 0 sl)
    (step : ∀ i sl, i < n → I i sl → match body (f i) sl with
      | .nx sl' => I (i + 1) sl'
      | .ct sl' => I (i + 1) sl'
      | .bk sl' => P (.nx sl')
      | r => P r) (fin : ∀ sl, I n sl → P (.nx sl)) : P (forI body ((List.range n).map f) sl) := by
  refine for_idx I _ h0 (fun i x sl e h => ?_) (fun sl h => fin sl (by rwa [List.length_map, List.length_range] at h))
  have hi : i < n := by
    have := (List.getElem?_eq_some_iff.mp e).1
    simpa using this
  rw [List.getElem?_map, List.getElem?_range hi] at e
  cases e
  exact step i sl hi h
theorem pwhileL_ind {c : PSl → PR Bool} {body : PSl → PRS} {P : PRS → Prop} (I : Nat → PSl → Prop)
    (step : ∀ m sl, I m sl → ∃ b, c sl = .ok b ∧ (if b = true then (match body sl with
      | .nx sl' => ∃ m', m' < m ∧ I m' sl'
      | .ct sl' => ∃ m', m' < m ∧ I m' sl'
      | .bk sl' => P (.nx sl')
      | r => P r) else P (.nx sl))) : ∀ (k m : Nat) (sl : PSl), m < k → I m sl → P (pwhileL c body k sl)
  | 0, m, sl, e, h => by omega
  | k + 1, m, sl, e, h => by
    obtain ⟨b, h1, h2⟩ := step m sl h
    unfold pwhileL
    rw [h1, PR.thenS_ok]
    cases b with
    | false => simpa using h2
    | true =>
      rw [if_pos rfl] at h2 ⊢
      cases hb : body sl with
      | nx sl' => rw [hb] at h2; obtain ⟨m', hm, hi⟩ := h2; exact pwhileL_ind I step k m' sl' (by omega) hi
      | ct sl' => rw [hb] at h2; obtain ⟨m', hm, hi⟩ := h2; exact pwhileL_ind I step k m' sl' (by omega) hi
      | bk sl' => rw [hb] at h2; exact h2
      | rt t => rw [hb] at h2; exact h2
      | xc x sl' => rw [hb] at h2; exact h2
      | stuck => rw [hb] at h2; exact h2
/-- a while, by an invariant and a measure -/
theorem while_ind {cl : PCall} {G : Tab} {c : E} {b : Ss} {sl : PSl} {P : PRS → Prop} (I : Nat → PSl → Prop) (m : Nat) (hm : m < 1000000) (h0 : I m sl)
    (step : ∀ m sl, I m sl → ∃ t b1, pE cl G c sl = .ok t ∧ ptru t = some b1 ∧ (if b1 = true then (match pSs cl G b sl with
      | .nx sl' => ∃ m', m' < m ∧ I m' sl'
      | .ct sl' => ∃ m', m' < m ∧ I m' sl'
      | .bk sl' => P (.nx sl')
      | r => P r) else P (.nx sl))) : P (pS cl G (.whl c b) sl) := by
  conv => arg 1; unfold pS
  refine pwhileL_ind I ?_ WF m sl (Nat.lt_of_lt_of_le hm (by simp [WF])) h0
  intro m sl h
  obtain ⟨t, b1, h1, h2, h3⟩ := step m sl h
  refine ⟨b1, ?_, h3⟩
  rw [h1, PR.bind_ok, ptruR, h2, PR.ofOpt_some]
/-- a comprehension whose items come one by one -/
theorem compI_enc {α : Type} {enc : α → T} {f : T → PR (Option T)} {g : α → Option T} : ∀ (ys : List α) (acc : List T), (∀ y ∈ ys, f (enc y) = .ok (g y)) → acc.length + ys.length ≤ sizeLine → compI f (ys.map enc) acc = .ok (acc ++ ys.filterMap g)
  | [], acc, _, _ => by simp [compI]
  | y :: ys, acc, h, hl => by
    rw [List.map_cons, compI, h y List.mem_cons_self, PR.bind_ok, List.filterMap_cons]
    rw [List.length_cons] at hl
    cases e : g y with
    | none => exact compI_enc ys acc (fun z hz => h z (List.mem_cons_of_mem _ hz)) (by omega)
    | some w =>
      dsimp only
      rw [if_pos (by omega), compI_enc ys _ (fun z hz => h z (List.mem_cons_of_mem _ hz)) (by rw [List.length_append, List.length_singleton]; omega), List.append_assoc]
      rfl
theorem compI_map {α : Type} {enc : α → T} {f : T → PR (Option T)} {g : α → T} (ys : List α) (h : ∀ y ∈ ys, f (enc y) = .ok (some (g y))) (hl : ys.length ≤ sizeLine) : compI f (ys.map enc) [] = .ok (ys.map g) := by
  rw [compI_enc (g := fun y => some (g y)) ys [] h (by simpa using hl), List.nil_append]
  congr 1
  induction ys with
  | nil => rfl
  | cons y ys ih => rw [List.filterMap_cons, List.map_cons]; simp only; rw [ih (fun z hz => h z (List.mem_cons_of_mem _ hz)) (by rw [List.length_cons] at hl; omega)]
theorem compI_filter {α : Type} {enc : α → T} {f : T → PR (Option T)} {p : α → Bool} {g : α → T} (ys : List α) (h : ∀ y ∈ ys, f (enc y) = .ok (if p y then some (g y) else none)) (hl : ys.length ≤ sizeLine) : compI f (ys.map enc) [] = .ok ((ys.filter p).map g) := by
  rw [compI_enc (g := fun y => if p y then some (g y) else none) ys [] h (by simpa using hl), List.nil_append]
  congr 1
  clear h hl
  induction ys with
  | nil => rfl
  | cons y ys ih =>
    rw [List.filterMap_cons, List.filter_cons]
    cases p y <;> simp [ih]

/-! ### one step at a time -/
section
variable {cl : PCall} {G : Tab}
def PRS.seq : PRS → (PSl → PRS) → PRS
  | .nx sl, f => f sl
  | r, _ => r
theorem pSs_nil {sl : PSl} : pSs cl G .nil sl = .nx sl := by simp only [pSs]
theorem pSs_cons {s : S} {ss : Ss} {sl : PSl} : pSs cl G (.cons s ss) sl = (pS cl G s sl).seq (pSs cl G ss) := by
  conv => lhs; unfold pSs
  cases pS cl G s sl <;> rfl
theorem q_nx {sl : PSl} {f : PSl → PRS} : (PRS.nx sl).seq f = f sl := rfl
theorem q_rt {t : T} {f : PSl → PRS} : (PRS.rt t).seq f = .rt t := rfl
theorem q_bk {sl : PSl} {f : PSl → PRS} : (PRS.bk sl).seq f = .bk sl := rfl
theorem q_ct {sl : PSl} {f : PSl → PRS} : (PRS.ct sl).seq f = .ct sl := rfl
theorem q_xc {x : Ex} {sl : PSl} {f : PSl → PRS} : (PRS.xc x sl).seq f = .xc x sl := rfl
theorem r_nx {sl : PSl} : (PRS.nx sl).toR = .ok .non := rfl
theorem r_rt {t : T} : (PRS.rt t).toR = .ok t := rfl
theorem r_xc {x : Ex} {sl : PSl} : (PRS.xc x sl).toR = .exc x := rfl
theorem a_v {t : T} : (PC.v t).arg = .v t := rfl
theorem a_l {t : List T} : (PC.l t).arg = .bl t := rfl
theorem a_bl {t : List T} : (PC.bl t).arg = .bl t := rfl
variable {i j : Int} {x y : T} {xs ys : List T} {p q : PC} {kvs : List (T × T)}
theorem o_add : pbin .Add (.v (.int i)) (.v (.int j)) = .ok (.v (.int (i + j))) := rfl
theorem o_sub : pbin .Sub (.v (.int i)) (.v (.int j)) = .ok (.v (.int (i - j))) := rfl
theorem o_mul : pbin .Mult (.v (.int i)) (.v (.int j)) = if mulOk i j then .ok (.v (.int (i * j))) else .stuck := rfl
theorem o_div : pbin .FloorDiv (.v (.int i)) (.v (.int j)) = if 0 < j ∧ inS P30 j = true then .ok (.v (.int (i / j))) else if j ≠ 0 ∧ j.natAbs.log2.blt 9000 = true then .ok (.v (.int (i.fdiv j))) else .stuck := rfl
theorem o_mod : pbin .Mod (.v (.int i)) (.v (.int j)) = if 0 < j then .ok (.v (.int (i % j))) else .stuck := rfl
theorem o_addT : pbin .Add (.v (.tup xs)) (.v (.tup ys)) = if xs.length + ys.length ≤ sizeLine then .ok (.v (.tup (xs ++ ys))) else .stuck := rfl
theorem o_addL (h : plst p = some xs) (h' : plst q = some ys) : pbin .Add p q = if xs.length + ys.length ≤ sizeLine then .ok (.v (.rol (xs ++ ys))) else .stuck := by
  unfold pbin
  split <;> first | (simp [plst] at h; done) | (simp [plst] at h'; done) | skip
  · rw [h, h']
  · rename_i hm _ _ _ _ _ _ _
    exact (hm rfl).elim
theorem o_addLL : pbin .Add (.v (.rol xs)) (.v (.rol ys)) = if xs.length + ys.length ≤ sizeLine then .ok (.v (.rol (xs ++ ys))) else .stuck := rfl
theorem o_addS {s t : Str} : pbin .Add (.v (.str s)) (.v (.str t)) = if s.length + t.length ≤ sizeLine then .ok (.v (.str (s ++ t))) else .stuck := rfl
theorem o_eq : pcmp .Eq p q = peq p q := rfl
theorem o_ne : pcmp .NotEq p q = (peq p q).map (!·) := rfl
theorem o_lt : pcmp .Lt (.v (.int i)) (.v (.int j)) = some (decide (i < j)) := rfl
theorem o_le : pcmp .LtE (.v (.int i)) (.v (.int j)) = some (decide (i ≤ j)) := rfl
theorem o_gt : pcmp .Gt (.v (.int i)) (.v (.int j)) = some (decide (j < i)) := rfl
theorem o_ge : pcmp .GtE (.v (.int i)) (.v (.int j)) = some (decide (j ≤ i)) := rfl
theorem o_in : pcmp .In p q = pin p q := rfl
theorem o_nin : pcmp .NotIn p q = (pin p q).map (!·) := rfl
theorem o_isN : pcmp .Is (.v .non) (.v .non) = some true := rfl
theorem o_isnN : pcmp .IsNot (.v .non) (.v .non) = some false := rfl
theorem o_isB {a b : Bool} : pcmp .Is (.v (.bl a)) (.v (.bl b)) = some (a == b) := rfl
theorem o_isnB {a b : Bool} : pcmp .IsNot (.v (.bl a)) (.v (.bl b)) = some (a != b) := rfl
theorem o_isT : pcmp .Is (.v (.tup xs)) (.v .non) = some false := rfl
theorem o_isnT : pcmp .IsNot (.v (.tup xs)) (.v .non) = some true := rfl
theorem o_isI : pcmp .Is (.v (.int i)) (.v .non) = some false := rfl
theorem o_isnI : pcmp .IsNot (.v (.int i)) (.v .non) = some true := rfl
theorem o_isL : pcmp .Is (.v (.rol xs)) (.v .non) = some false := rfl
theorem o_isnL : pcmp .IsNot (.v (.rol xs)) (.v .non) = some true := rfl
theorem o_isnD : pcmp .IsNot (.v (.rod kvs)) (.v .non) = some true := rfl
theorem o_isD : pcmp .Is (.v (.rod kvs)) (.v .non) = some false := rfl
theorem o_isS {s : Str} : pcmp .Is (.v (.str s)) (.v .non) = some false := rfl
theorem o_isBN {b : Bool} : pcmp .Is (.v (.bl b)) (.v .non) = some false := rfl
theorem o_isnBN {b : Bool} : pcmp .IsNot (.v (.bl b)) (.v .non) = some true := rfl
theorem eqv_int : peq (.v (.int i)) (.v (.int j)) = some (decide (i = j)) := by
  simp [peq, presD, toD, PyData.depth, PyData.eqv]; rfl
theorem o_ix (h : pseq p = some xs) : pix p (.v (.int i)) = (ixN xs.length i).bind fun j => xs[j]? := by unfold pix; rw [h]
theorem o_ixT : pix (.v (.tup xs)) (.v (.int i)) = (ixN xs.length i).bind fun j => xs[j]? := rfl
theorem o_ixR : pix (.v (.rol xs)) (.v (.int i)) = (ixN xs.length i).bind fun j => xs[j]? := rfl
theorem o_ixl : pix (.l xs) (.v (.int i)) = (ixN xs.length i).bind fun j => xs[j]? := rfl
theorem o_ixbl : pix (.bl xs) (.v (.int i)) = (ixN xs.length i).bind fun j => xs[j]? := rfl
theorem o_ixd : pix (.d kvs) (.v x) = if isKey x then dLook x kvs else none := rfl
theorem o_ixbd : pix (.bd kvs) (.v x) = if isKey x then dLook x kvs else none := rfl
theorem o_ixD : pix (.v (.rod kvs)) (.v x) = if isKey x then dLook x kvs else none := rfl
theorem o_slcT {lo hi : Option Int} : pslc (.v (.tup xs)) lo hi = .ok (.v (.tup (cutT xs lo hi))) := rfl
theorem o_slcR {lo hi : Option Int} : pslc (.v (.rol xs)) lo hi = .ok (.v (.rol (cutT xs lo hi))) := rfl
theorem o_slcl {lo hi : Option Int} : pslc (.l xs) lo hi = .ok (.v (.rol (cutT xs lo hi))) := rfl
theorem o_revT : prev (.v (.tup xs)) = .ok (.v (.tup xs.reverse)) := rfl
theorem o_revR : prev (.v (.rol xs)) = .ok (.v (.rol xs.reverse)) := rfl
theorem o_lenT : pbfn .len [.v (.tup xs)] = .ok (.v (.int xs.length)) := rfl
theorem o_lenR : pbfn .len [.v (.rol xs)] = .ok (.v (.int xs.length)) := rfl
theorem o_lenl : pbfn .len [.l xs] = .ok (.v (.int xs.length)) := rfl
theorem o_lenbl : pbfn .len [.bl xs] = .ok (.v (.int xs.length)) := rfl
theorem o_lenD : pbfn .len [.v (.rod kvs)] = .ok (.v (.int kvs.length)) := rfl
theorem o_lend : pbfn .len [.d kvs] = .ok (.v (.int kvs.length)) := rfl
theorem o_abs : pbfn .abs [.v (.int i)] = .ok (.v (.int (if i < 0 then -i else i))) := rfl
theorem o_int : pbfn .int [.v (.int i)] = .ok (.v (.int i)) := rfl
theorem o_intB {b : Bool} : pbfn .int [.v (.bl b)] = .ok (.v (.int (if b then 1 else 0))) := rfl
theorem o_tupT : pbfn .tuple [.v (.tup xs)] = .ok (.v (.tup xs)) := rfl
theorem o_tupR : pbfn .tuple [.v (.rol xs)] = .ok (.v (.tup xs)) := rfl
theorem o_tupl : pbfn .tuple [.l xs] = .ok (.v (.tup xs)) := rfl
theorem o_lstT : pbfn .list [.v (.tup xs)] = .ok (.v (.rol xs)) := rfl
theorem o_lstR : pbfn .list [.v (.rol xs)] = .ok (.v (.rol xs)) := rfl
theorem intsOf_map : ∀ (l : List Int), intsOf (l.map .int) = some l
  | [] => rfl
  | a :: l => by simp only [List.map_cons, intsOf, intsOf_map l, Option.map_some]
theorem boolsOf_map : ∀ (l : List Bool), boolsOf (l.map .bl) = some l
  | [] => rfl
  | a :: l => by simp only [List.map_cons, boolsOf, boolsOf_map l, Option.map_some]
theorem o_sum {l : List Int} : pbfn .sum [.v (.rol (l.map .int))] = .ok (.v (.int l.sum)) := by
  simp only [pbfn, plst, Option.bind_some, intsOf_map]
theorem o_all {l : List Bool} : pbfn .all [.v (.rol (l.map .bl))] = .ok (.v (.bl (l.all id))) := by
  simp only [pbfn, plst, Option.bind_some, boolsOf_map]
theorem o_any {l : List Bool} : pbfn .any [.v (.rol (l.map .bl))] = .ok (.v (.bl (l.any id))) := by
  simp only [pbfn, plst, Option.bind_some, boolsOf_map]
theorem o_allM {α : Type} {l : List α} {f : α → Bool} : pbfn .all [.v (.rol (l.map fun x => .bl (f x)))] = .ok (.v (.bl (l.all f))) := by
  have := o_all (l := l.map f)
  rw [List.map_map, List.all_map] at this
  exact this
theorem o_anyM {α : Type} {l : List α} {f : α → Bool} : pbfn .any [.v (.rol (l.map fun x => .bl (f x)))] = .ok (.v (.bl (l.any f))) := by
  have := o_any (l := l.map f)
  rw [List.map_map, List.any_map] at this
  exact this
theorem o_srt {l : List Int} : pbfn .sorted [.v (.rol (l.map .int))] = .ok (.v (.rol ((isortI l).map .int))) := by
  simp only [pbfn, plst, Option.bind_some, intsOf_map]
theorem o_srtD {l : List Int} (h : intsOf (kvs.map (·.1)) = some l) (hl : l.length < 64) : pbfn .sorted [.v (.rod kvs)] = .ok (.v (.rol ((isortI l).map .int))) := by
  simp only [pbfn, plst, Option.bind_none, pmap, Option.bind_some, h, hl, if_true]
theorem o_min2 : pbfn .min2 [.v (.int i), .v (.int j)] = .ok (.v (.int (if j < i then j else i))) := rfl
theorem o_max2 : pbfn .max2 [.v (.int i), .v (.int j)] = .ok (.v (.int (if j > i then j else i))) := rfl
theorem o_repr {b : Bool} : pbfn .repr [.v (.bl b)] = .ok (.v (.str (reprB b))) := rfl
theorem o_isi {ty : Ty} : pbfn (.isi ty) [p] = pisi ty p := rfl
theorem t_b {b : Bool} : ptruR (.v (.bl b)) = .ok b := rfl
theorem t_i : ptruR (.v (.int i)) = .ok (i != 0) := rfl
theorem t_t : ptruR (.v (.tup xs)) = .ok (!xs.isEmpty) := rfl
theorem t_r : ptruR (.v (.rol xs)) = .ok (!xs.isEmpty) := rfl
theorem t_l : ptruR (.l xs) = .ok (!xs.isEmpty) := rfl
theorem t_n : ptruR (.v .non) = .ok false := rfl
theorem y_t : pseqO true (.v (.tup xs)) = some xs := rfl
theorem y_r : pseqO true (.v (.rol xs)) = some xs := rfl
theorem y_l : pseqO true (.l xs) = some xs := rfl
theorem y_bl : pseqO true (.bl xs) = some xs := rfl
theorem z_t : pseqO false (.v (.tup xs)) = some xs := rfl
theorem z_r : pseqO false (.v (.rol xs)) = some xs := rfl
theorem l_r : plst (.v (.rol xs)) = some xs := rfl
theorem l_l : plst (.l xs) = some xs := rfl
theorem b62 {i : Int} (h0 : -1000000 < i) (hc : i < 1000000) : bnd62 i = true := by
  unfold bnd62; rw [inS_iff]; unfold P62; omega
theorem mul64 {i j : Int} (h : (-1000000000000 < i ∧ i < 1000000000000) ∨ (-1000000000000 < j ∧ j < 1000000000000)) : mulOk i j = true := by
  unfold mulOk; rw [Bool.or_eq_true, Bool.or_eq_true, inS_iff, inS_iff]; left; unfold P64; omega
theorem in30 {i : Int} (h : -1073741824 < i ∧ i < 1073741824) : inS P30 i = true := by
  rw [inS_iff]; unfold P30; omega
theorem in62 {i : Int} (h : -1000000000000 < i ∧ i < 1000000000000) : inS P62 i = true := by
  rw [inS_iff]; unfold P62; omega
theorem ixN_nat {n i : Nat} (h : i < n) : ixN n (i : Int) = some i := by
  unfold ixN; rw [if_pos (by omega), if_pos (by omega)]; simp
theorem n_rng1 {k : Nat} (h : bnd62 i = true) (hk : i.toNat = k) : (itRange [.int i]).bind PIt.ofI = some (.rng 0 k) := by
  subst hk; unfold itRange; simp only [h, if_true, Option.bind_some, PIt.ofI]
theorem n_rng2 {k : Nat} (h : bnd62 i = true) (h' : bnd62 j = true) (hk : (j - i).toNat = k) : (itRange [.int i, .int j]).bind PIt.ofI = some (.rng i k) := by
  subst hk; unfold itRange; simp only [h, h', Bool.and_self, if_true, Option.bind_some, PIt.ofI]
theorem n_rng3 {k : Nat} (h : bnd62 i = true) (h' : bnd62 j = true) (hk : (i - j).toNat = k) : (itRange [.int i, .int j, .int (-1)]).bind PIt.ofI = some (.rngC i (-1) k) := by
  subst hk; unfold itRange; simp only [h, h', Bool.and_self, and_self, if_true, Option.bind_some, PIt.ofI]
end
theorem b_T {p : Prop} [Decidable p] (h : p) : decide p = true := decide_eq_true h
theorem b_F {p : Prop} [Decidable p] (h : ¬ p) : decide p = false := decide_eq_false h
theorem lt_size {k : Nat} (h : k < 1000) : k < sizeLine := Nat.lt_of_lt_of_le h (by simp [sizeLine])
theorem le_size {k : Nat} (h : k ≤ 1000000) : k ≤ sizeLine := Nat.le_trans h (by simp [sizeLine])
theorem lt_size2 {k : Nat} (h : k ≤ 1000) : k ≤ sizeLine := Nat.le_trans h (by simp [sizeLine])
end PF

end

section
set_option Elab.async false
set_option linter.all false
set_option maxRecDepth 10000
set_option maxHeartbeats 2000000
set_option autoImplicit false
/-! PfP2: the pure interpreter tells what the interpreter with a store does. -/
namespace PF
open PySem
theorem lims_iff {n : Nat} : ∀ {xs : List T}, T.lims n xs = true ↔ ∀ x ∈ xs, x.lim n = true
  | [] => by simp [T.lims]
  | x :: xs => by simp only [T.lims, Bool.and_eq_true, lims_iff (xs := xs), List.mem_cons, forall_eq_or_imp]
theorem limK_iff {n : Nat} : ∀ {xs : List (T × T)}, T.limK n xs = true ↔ ∀ p ∈ xs, p.1.lim n = true ∧ p.2.lim n = true
  | [] => by simp [T.limK]
  | (k, v) :: xs => by simp only [T.limK, Bool.and_eq_true, limK_iff (xs := xs), List.mem_cons, forall_eq_or_imp]
theorem Pur.noref {n : Nat} (h : Pur (.ref n)) : False := by simp [Pur, T.lim] at h
theorem pur_tup {ts : List T} : Pur (.tup ts) ↔ Purs ts := by simp [Pur, T.lim]
theorem pur_ctp {ts : List T} : Pur (.ctp ts) ↔ Purs ts := by simp [Pur, T.lim]
theorem pur_rol {ts : List T} : Pur (.rol ts) ↔ Purs ts := by simp [Pur, T.lim]
theorem pur_rod {ts : List (T × T)} : Pur (.rod ts) ↔ PurK ts := by simp [Pur, T.lim]
theorem purs_get {ts : List T} {i : Nat} {t : T} (h : Purs ts) (e : ts[i]? = some t) : Pur t := lims_iff.mp h t (List.mem_of_getElem? e)
theorem purs_sub {ts us : List T} (h : Purs ts) (hs : ∀ x ∈ us, x ∈ ts) : Purs us := lims_iff.mpr fun x hx => lims_iff.mp h x (hs x hx)
theorem purs_app {ts us : List T} (h : Purs ts) (h' : Purs us) : Purs (ts ++ us) := lims_iff.mpr fun x hx => (List.mem_append.mp hx).elim (lims_iff.mp h x) (lims_iff.mp h' x)
theorem purs_cut {ts : List T} {lo hi : Option Int} (h : Purs ts) : Purs (cutT ts lo hi) := purs_sub h fun x hx => List.mem_of_mem_drop (List.mem_of_mem_take hx)
theorem purs_rev {ts : List T} (h : Purs ts) : Purs ts.reverse := purs_sub h fun x hx => List.mem_reverse.mp hx
theorem purs_rep {t : T} {n : Nat} (h : Pur t) : Purs (List.replicate n t) := lims_iff.mpr fun x hx => by rw [(List.mem_replicate.mp hx).2]; exact h
theorem purs_set {ts : List T} {i : Nat} {t : T} (h : Purs ts) (h' : Pur t) : Purs (ts.set i t) := lims_iff.mpr fun x hx => by
  rcases List.mem_or_eq_of_mem_set hx with q | rfl
  · exact lims_iff.mp h x q
  · exact h'
theorem purs_one {t : T} (h : Pur t) : Purs [t] := lims_iff.mpr fun x hx => by rw [List.mem_singleton.mp hx]; exact h
theorem pur_look {k u : T} : ∀ {kvs : List (T × T)}, PurK kvs → dLook k kvs = some u → Pur u
  | [], _, e => by simp [dLook] at e
  | (a, b) :: r, h, e => by
    simp only [PurK, T.limK, Bool.and_eq_true] at h
    simp only [dLook] at e
    split at e
    · cases e; exact h.1.2
    · exact pur_look h.2 e
theorem pur_put {k u : T} {kvs : List (T × T)} (h : PurK kvs) (hk : Pur k) (hu : Pur u) : PurK (dPut k u kvs) := by
  rw [PurK, limK_iff] at h ⊢
  unfold dPut
  split
  · intro p hp
    obtain ⟨q, hq, rfl⟩ := List.mem_map.mp hp
    split
    · exact ⟨(h q hq).1, hu⟩
    · exact h q hq
  · intro p hp
    rcases List.mem_append.mp hp with hp | hp
    · exact h p hp
    · rw [List.mem_singleton.mp hp]; exact ⟨hk, hu⟩
theorem pur_fold : ∀ {l kvs : List (T × T)}, PurK l → PurK kvs → PurK (l.foldl (fun acc p => dPut p.1 p.2 acc) kvs)
  | [], _, _, h => h
  | (a, b) :: l, kvs, h, h' => by
    simp only [PurK, T.limK, Bool.and_eq_true] at h
    exact pur_fold (l := l) h.2 (pur_put h' h.1.1 h.1.2)

def RelR {α β : Type} (st : Store) (Rr : α → β → Prop) (r : R α) : PR β → Prop
  | .ok b => ∃ a, r = .ok a st ∧ Rr a b
  | .exc x => r = .exc x st ∧ PurX x
  | .stuck => True
section
variable {st : Store}
theorem RelR.bind {α β γ δ : Type} {Rr : α → β → Prop} {Rs : γ → δ → Prop} {r : R α} {p : PR β} {f : α → Store → R γ} {g : β → PR δ} (h : RelR st Rr r p) (hk : ∀ a b, Rr a b → RelR st Rs (f a st) (g b)) : RelR st Rs (r.bind f) (p.bind g) := by
  cases p with
  | ok b => obtain ⟨a, rfl, q⟩ := h; exact hk a b q
  | exc x => obtain ⟨rfl, q⟩ := h; exact ⟨rfl, q⟩
  | stuck => exact True.intro
theorem RelR.ret {α β : Type} {Rr : α → β → Prop} {a : α} {b : β} (h : Rr a b) : RelR st Rr (.ok a st) (.ok b) := ⟨a, rfl, h⟩
theorem RelR.noExc {α β : Type} {Rr : α → β → Prop} {r : R α} {p : PR β} (h : RelR st Rr r p) : RelR st Rr r.noExc p.noExc := by
  cases p with
  | ok b => obtain ⟨a, rfl, q⟩ := h; exact ⟨a, rfl, q⟩
  | exc x => exact True.intro
  | stuck => exact True.intro
/-- a value is wanted -/
theorem RelR.bindV {γ δ : Type} {Rs : γ → δ → Prop} {r : R T} {p : PR PC} {f : T → Store → R γ} {g : T → PR δ} (h : RelR st (RelA st) r p) (hk : ∀ t, Pur t → RelR st Rs (f t st) (g t)) : RelR st Rs (r.bind f) (p.bind fun x => x.val.bind g) :=
  h.bind fun a b q => by
    cases b with
    | v u => obtain ⟨rfl, q⟩ := q; exact hk a q
    | _ => exact True.intro
theorem RelR.valV {r : R T} {p : PR PC} (h : RelR st (RelA st) r p) : RelR st (fun a b => a = b ∧ Pur b) r (p.bind fun x => x.val) := by
  cases p with
  | ok b =>
    obtain ⟨a, rfl, q⟩ := h
    cases b with
    | v u => exact ⟨a, rfl, q⟩
    | _ => exact True.intro
  | exc x => exact h
  | stuck => exact True.intro
theorem RelA.seq {t : T} {p : PC} {xs : List T} (h : RelA st t p) (e : pseq p = some xs) : seqOf st t = some xs ∧ Purs xs := by
  unfold pseq at e
  split at e
  · cases e; obtain ⟨rfl, q⟩ := h; exact ⟨rfl, pur_tup.mp q⟩
  · cases e; obtain ⟨rfl, q⟩ := h; exact ⟨rfl, pur_rol.mp q⟩
  · cases e; obtain ⟨rfl, q⟩ := h; exact ⟨rfl, pur_ctp.mp q⟩
  · cases e; obtain ⟨n, rfl, g, q⟩ := h; exact ⟨by simp only [seqOf, g], q⟩
  · cases e; obtain ⟨n, rfl, g, q⟩ := h; exact ⟨by simp only [seqOf, g], q⟩
  · cases e
theorem RelA.lst {t : T} {p : PC} {xs : List T} (h : RelA st t p) (e : plst p = some xs) : lstOf st t = some xs ∧ Purs xs := by
  unfold plst at e
  split at e
  · cases e; obtain ⟨rfl, q⟩ := h; exact ⟨rfl, pur_rol.mp q⟩
  · cases e; obtain ⟨n, rfl, g, q⟩ := h; exact ⟨by simp only [lstOf, g], q⟩
  · cases e; obtain ⟨n, rfl, g, q⟩ := h; exact ⟨by simp only [lstOf, g], q⟩
  · cases e
theorem RelA.map {t : T} {p : PC} {xs : List (T × T)} (h : RelA st t p) (e : pmap p = some xs) : mapOf st t = some xs ∧ seqOf st t = none ∧ lstOf st t = none ∧ PurK xs := by
  unfold pmap at e
  split at e
  · cases e; obtain ⟨rfl, q⟩ := h; exact ⟨rfl, rfl, rfl, pur_rod.mp q⟩
  · cases e; obtain ⟨n, rfl, g, q⟩ := h; exact ⟨by simp only [mapOf, g], by simp only [seqOf, g], by simp only [lstOf, g], q⟩
  · cases e; obtain ⟨n, rfl, g, q⟩ := h; exact ⟨by simp only [mapOf, g], by simp only [seqOf, g], by simp only [lstOf, g], q⟩
  · cases e
theorem pseqO_seq {own : Bool} {p : PC} {xs : List T} (e : pseqO own p = some xs) : pseq p = some xs := by
  unfold pseqO at e
  split at e
  · split at e
    · exact e
    · cases e
  · split at e
    · exact e
    · cases e
  · exact e
theorem resD_pur {t : T} (h : Pur t) : resD st t = toD t := by
  cases t <;> first | rfl | exact h.noref.elim
theorem tru_pur {t : T} (h : Pur t) : tru st t = tru [] t := by
  cases t <;> first | rfl | exact h.noref.elim
theorem RelA.res {t : T} {p : PC} {d : PyData} (h : RelA st t p) (e : presD p = some d) : resD st t = some d := by
  unfold presD at e
  split at e
  · obtain ⟨rfl, q⟩ := h; rw [resD_pur q]; exact e
  · obtain ⟨n, rfl, g, q⟩ := h; simp only [resD, g]; exact e
  · obtain ⟨n, rfl, g, q⟩ := h; simp only [resD, g]; exact e
  · cases e
theorem RelA.eq {t u : T} {p q : PC} {b : Bool} (h : RelA st t p) (h' : RelA st u q) (e : peq p q = some b) : eqT st t u = some b := by
  unfold peq at e
  split at e
  · rename_i d d' e1 e2
    unfold eqT
    rw [h.res e1, h'.res e2]
    exact e
  · cases e
theorem RelA.tru {t : T} {p : PC} {b : Bool} (h : RelA st t p) (e : ptru p = some b) : PF.tru st t = some b := by
  cases p with
  | v u => obtain ⟨rfl, q⟩ := h; rw [tru_pur q]; exact e
  | l xs => obtain ⟨n, rfl, g, q⟩ := h; simp only [PF.tru, g]; exact e
  | bl xs => obtain ⟨n, rfl, g, q⟩ := h; simp only [PF.tru, g]; exact e
  | d xs => obtain ⟨n, rfl, g, q⟩ := h; simp only [PF.tru, g]; exact e
  | bd xs => obtain ⟨n, rfl, g, q⟩ := h; simp only [PF.tru, g]; exact e
theorem RelA.truR {t : T} {p : PC} (h : RelA st t p) : RelR st (fun a b => a = b) (PF.truR st t) (ptruR p) := by
  unfold ptruR PF.truR
  cases e : ptru p with
  | none => exact True.intro
  | some b => rw [h.tru e]; exact ⟨b, rfl, rfl⟩
theorem vret {t : T} (h : Pur t) : RelR st (RelA st) (.ok t st) (.ok (.v t)) := ⟨t, rfl, rfl, h⟩
theorem bret {o : Option Bool} {p : Option Bool} (h : ∀ b, p = some b → o = some b) : RelR st (RelA st) (R.ofOpt st (o.map .bl)) (PR.ofOpt (p.map fun b => .v (.bl b))) := by
  cases p with
  | none => exact True.intro
  | some b => rw [h b rfl]; exact vret rfl
theorem obret {o : Option Bool} {p : Option Bool} (h : ∀ b, p = some b → o = some b) : RelR st (fun a b => a = b) (R.ofOpt st o) (PR.ofOpt p) := by
  cases p with
  | none => exact True.intro
  | some b => rw [h b rfl]; exact ⟨b, rfl, rfl⟩
theorem bin_cat {t u : T} {xs ys : List T} (g1 : lstOf st t = some xs) (g2 : lstOf st u = some ys) (c : xs.length + ys.length ≤ sizeLine) : binT .Add t u st = .ok (.rol (xs ++ ys)) st := by
  cases t <;> first | (simp [lstOf] at g1; done) | skip
  all_goals cases u <;> first | (simp [lstOf] at g2; done) | skip
  all_goals
    simp only [binT]
    rw [g1, g2]
    exact if_pos c
theorem pbin_ok {op : Operator} {t u : T} {p q : PC} (h : RelA st t p) (h' : RelA st u q) : RelR st (RelA st) (binT op t u st) (pbin op p q) := by
  unfold pbin
  split
  · obtain ⟨rfl, _⟩ := h; obtain ⟨rfl, _⟩ := h'; exact vret rfl
  · obtain ⟨rfl, _⟩ := h; obtain ⟨rfl, _⟩ := h'; exact vret rfl
  · obtain ⟨rfl, _⟩ := h; obtain ⟨rfl, _⟩ := h'; simp only [binT]; split
    · exact vret rfl
    · exact True.intro
  · obtain ⟨rfl, _⟩ := h; obtain ⟨rfl, _⟩ := h'; simp only [binT]; split
    · exact vret rfl
    · split
      · exact vret rfl
      · exact True.intro
  · obtain ⟨rfl, _⟩ := h; obtain ⟨rfl, _⟩ := h'; simp only [binT]; split
    · exact vret rfl
    · exact True.intro
  · obtain ⟨rfl, _⟩ := h; obtain ⟨rfl, _⟩ := h'; simp only [binT]; split
    · exact vret rfl
    · exact True.intro
  · obtain ⟨rfl, k⟩ := h; obtain ⟨rfl, k'⟩ := h'; simp only [binT]; split
    · exact vret (pur_tup.mpr (purs_app (pur_tup.mp k) (pur_tup.mp k')))
    · exact True.intro
  · split
    · rename_i xs ys e1 e2
      obtain ⟨g1, k1⟩ := h.lst e1
      obtain ⟨g2, k2⟩ := h'.lst e2
      split
      · rename_i c
        have := bin_cat g1 g2 c
        rw [this]
        exact vret (pur_rol.mpr (purs_app k1 k2))
      · exact True.intro
    · exact True.intro
  · exact True.intro
theorem cmpT_pur {op : CmpOp} {t u : T} (ho : op ≠ .Eq ∧ op ≠ .NotEq ∧ op ≠ .In ∧ op ≠ .NotIn) : cmpT op t u st = cmpT op t u [] := by
  cases op <;> first | rfl | (exact absurd rfl ho.1) | (exact absurd rfl ho.2.1) | (exact absurd rfl ho.2.2.1) | (exact absurd rfl ho.2.2.2)
theorem pin_ok {t u : T} {p q : PC} {b : Bool} (h : RelA st t p) (h' : RelA st u q) (e : pin p q = some b) : inT t u st = some b := by
  unfold pin at e
  split at e
  · obtain ⟨rfl, k⟩ := h
    unfold inT
    split at e
    · rename_i xs ex
      rw [(h'.seq ex).1]; exact e
    · split at e
      · rename_i kvs ek
        obtain ⟨g1, g2, _⟩ := h'.map ek
        rw [g2, g1]; exact e
      · cases e
  · cases e
theorem pcmp_ok {op : CmpOp} {t u : T} {p q : PC} {b : Bool} (h : RelA st t p) (h' : RelA st u q) (e : pcmp op p q = some b) : cmpT op t u st = some b := by
  unfold pcmp at e
  split at e
  · exact h.eq h' e
  · obtain ⟨c, e1, rfl⟩ := Option.map_eq_some_iff.mp e
    show (eqT st t u).map _ = _
    rw [h.eq h' e1]; rfl
  · exact pin_ok h h' e
  · obtain ⟨c, e1, rfl⟩ := Option.map_eq_some_iff.mp e
    show (inT t u st).map _ = _
    rw [pin_ok h h' e1]; rfl
  · rename_i h1 h2 h3 h4
    split at e
    · obtain ⟨rfl, _⟩ := h; obtain ⟨rfl, _⟩ := h'
      rw [cmpT_pur ⟨h1, h2, h3, h4⟩]; exact e
    · cases e
theorem pix_ok {t u : T} {p q : PC} (h : RelA st t p) (h' : RelA st u q) : RelR st (RelA st) (R.ofOpt st (ixT t u st)) (PR.ofOpt ((pix p q).map .v)) := by
  cases e : pix p q with
  | none => exact True.intro
  | some w =>
    have : ixT t u st = some w ∧ Pur w := by
      unfold pix at e
      unfold ixT
      split at e
      · rename_i xs ex
        obtain ⟨g, k⟩ := h.seq ex
        rw [g]
        split at e
        · obtain ⟨rfl, _⟩ := h'
          refine ⟨e, ?_⟩
          obtain ⟨j, e1, e2⟩ := Option.bind_eq_some_iff.mp e
          exact purs_get k e2
        · cases e
      · split at e
        · rename_i kvs i ek
          obtain ⟨g1, g2, _, k⟩ := h.map ek
          obtain ⟨rfl, _⟩ := h'
          rw [g2, g1]
          refine ⟨e, ?_⟩
          split at e
          · exact pur_look k e
          · cases e
        · cases e
    rw [this.1]
    exact vret this.2
theorem pslc_ok {t : T} {p : PC} {lo hi : Option Int} (h : RelA st t p) : RelR st (RelA st) (slcT t lo hi st) (pslc p lo hi) := by
  unfold pslc
  split
  · obtain ⟨rfl, k⟩ := h; exact vret (pur_tup.mpr (purs_cut (pur_tup.mp k)))
  · split
    · rename_i xs e1
      obtain ⟨g, k⟩ := h.lst e1
      have : slcT t lo hi st = .ok (.rol (cutT xs lo hi)) st := by
        unfold slcT
        split
        · simp [lstOf] at g
        · rw [g]
      rw [this]
      exact vret (pur_rol.mpr (purs_cut k))
    · exact True.intro
theorem prev_ok {t : T} {p : PC} (h : RelA st t p) : RelR st (RelA st) (revT t st) (prev p) := by
  unfold prev
  split
  · obtain ⟨rfl, k⟩ := h; exact vret (pur_tup.mpr (purs_rev (pur_tup.mp k)))
  · split
    · rename_i xs e1
      obtain ⟨g, k⟩ := h.lst e1
      have : revT t st = .ok (.rol xs.reverse) st := by
        unfold revT
        split
        · simp [lstOf] at g
        · rw [g]
      rw [this]
      exact vret (pur_rol.mpr (purs_rev k))
    · exact True.intro
theorem pisi_ok {ty : Ty} {t : T} {p : PC} (h : RelA st t p) : RelR st (RelA st) (isiF ty t st) (pisi ty p) := by
  unfold pisi
  split
  · rename_i xs ex
    unfold isiF
    rw [(h.lst ex).1]; exact vret rfl
  · rename_i n1
    split
    · rename_i kvs ek
      obtain ⟨g1, _, g2, _⟩ := h.map ek
      unfold isiF
      rw [g2, g1]; exact vret rfl
    · rename_i n2
      split
      · rename_i u
        obtain ⟨rfl, k⟩ := h
        have e1 : lstOf st t = none := by
          cases t <;> first | rfl | exact k.noref.elim | (simp [plst] at n1)
        have e2 : mapOf st t = none := by
          cases t <;> first | rfl | exact k.noref.elim | (simp [pmap] at n2)
        unfold isiF
        rw [e1, e2]
        cases isTy ty t with
        | none => exact True.intro
        | some b => exact vret rfl
      · exact True.intro
theorem ints_of {t : T} {p : PC} {is : List Int} (h : RelA st t p) (e : (plst p).bind intsOf = some is) : (lstOf st t).bind intsOf = some is := by
  obtain ⟨xs, e1, e2⟩ := Option.bind_eq_some_iff.mp e
  rw [(h.lst e1).1]; exact e2
theorem bools_of {t : T} {p : PC} {is : List Bool} (h : RelA st t p) (e : (plst p).bind boolsOf = some is) : (lstOf st t).bind boolsOf = some is := by
  obtain ⟨xs, e1, e2⟩ := Option.bind_eq_some_iff.mp e
  rw [(h.lst e1).1]; exact e2
theorem RelAs.one {ts : List T} {p : PC} (h : RelAs st ts [p]) : ∃ t, ts = [t] ∧ RelA st t p := by
  cases h with | cons a b => cases b; exact ⟨_, rfl, a⟩
theorem RelAs.two {ts : List T} {p q : PC} (h : RelAs st ts [p, q]) : ∃ t u, ts = [t, u] ∧ RelA st t p ∧ RelA st u q := by
  cases h with | cons a b => obtain ⟨u, rfl, c⟩ := b.one; exact ⟨_, _, rfl, a, c⟩
theorem bfn_len {t : T} {xs : List T} (g : seqOf st t = some xs) : bfn .len [t] st = .ok (.int xs.length) st := by
  cases t <;> first | (simp [seqOf] at g; done) | (simp only [bfn]; rw [g])
theorem bfn_lenD {t : T} {kvs : List (T × T)} (g : seqOf st t = none) (g' : mapOf st t = some kvs) : bfn .len [t] st = .ok (.int kvs.length) st := by
  cases t <;> first | (simp [mapOf] at g'; done) | (simp only [bfn]; rw [g, g'])
theorem purs_ints (l : List Int) : Purs (l.map .int) := lims_iff.mpr fun x hx => by
  obtain ⟨i, _, rfl⟩ := List.mem_map.mp hx
  rfl
theorem map_lst {t : T} {xs : List T} (g : lstOf st t = some xs) : mapOf st t = none := by
  cases t <;> first | rfl | (simp [lstOf] at g; done) | skip
  rename_i n
  unfold lstOf at g
  unfold mapOf
  dsimp only at g ⊢
  split at g
  · rename_i e; rw [e]
  · cases g
mutual
theorem pur_fromD : ∀ d : PyData, Pur (fromD d)
  | .none => rfl
  | .bool _ => rfl
  | .int _ => rfl
  | .str _ => rfl
  | .tuple xs => by rw [fromD]; exact pur_tup.mpr (pur_fromDs xs)
  | .list xs => by rw [fromD]; exact pur_rol.mpr (pur_fromDs xs)
  | .dict _ => by rw [fromD]; rfl
theorem pur_fromDs : ∀ ds : List PyData, Purs (fromDs ds)
  | [] => by rw [fromDs]; rfl
  | d :: ds => by rw [fromDs]; simp only [Purs, T.lims, Bool.and_eq_true]; exact ⟨pur_fromD d, pur_fromDs ds⟩
end
theorem pur_minT {xs : List T} {u : T} (h : minT xs = some u) : Pur u := by
  unfold minT at h
  split at h
  · split at h
    · cases h; exact pur_fromD _
    · cases h
  · cases h
theorem pur_sortT {xs us : List T} (h : sortT xs = some us) : Purs us := by
  unfold sortT at h
  split at h
  · split at h
    · cases h
      exact lims_iff.mpr fun x hx => by
        obtain ⟨d, _, rfl⟩ := List.mem_map.mp hx
        exact pur_fromD d
    · cases h
  · cases h
theorem pbfn_ok {b : B} {ts : List T} {ps : List PC} (h : RelAs st ts ps) : RelR st (RelA st) (bfn b ts st) (pbfn b ps) := by
  unfold pbfn
  split
  · obtain ⟨t, rfl, q⟩ := h.one
    split
    · rename_i z
      have ht : t = .str z := q.1
      subst ht
      show RelR st (RelA st) (if z.length ≤ sizeLine then .ok (.int z.length) st else .stuck) _
      split
      · exact vret rfl
      · exact True.intro
    · rename_i hs
      split
      · rename_i xs ex
        obtain ⟨g, k⟩ := q.seq ex
        have := bfn_len g
        rw [this]; exact vret rfl
      · split
        · rename_i kvs ek
          obtain ⟨g1, g2, _, k⟩ := q.map ek
          have := bfn_lenD g2 g1
          rw [this]; exact vret rfl
        · exact True.intro
  · obtain ⟨t, rfl, q⟩ := h.one; obtain ⟨rfl, _⟩ := q; exact vret rfl
  · obtain ⟨t, rfl, q⟩ := h.one; obtain ⟨rfl, _⟩ := q; exact vret rfl
  · obtain ⟨t, rfl, q⟩ := h.one; obtain ⟨rfl, _⟩ := q; exact vret rfl
  · obtain ⟨t, rfl, q⟩ := h.one
    split
    · rename_i xs ex
      obtain ⟨g, k⟩ := q.seq ex
      simp only [bfn, g]; exact vret (pur_tup.mpr k)
    · exact True.intro
  · obtain ⟨t, rfl, q⟩ := h.one
    split
    · rename_i xs ex
      obtain ⟨g, k⟩ := q.seq ex
      simp only [bfn, g]; exact vret (pur_rol.mpr k)
    · exact True.intro
  · obtain ⟨t, rfl, q⟩ := h.one
    split
    · rename_i xs ex
      simp only [bfn, ints_of q ex]; exact vret rfl
    · exact True.intro
  · obtain ⟨t, rfl, q⟩ := h.one
    split
    · rename_i xs ex
      simp only [bfn, bools_of q ex]; exact vret rfl
    · exact True.intro
  · obtain ⟨t, rfl, q⟩ := h.one
    split
    · rename_i xs ex
      simp only [bfn, bools_of q ex]; exact vret rfl
    · exact True.intro
  · obtain ⟨t, rfl, q⟩ := h.one
    split
    · rename_i xs ex
      simp only [bfn, ints_of q ex]
      split
      · exact True.intro
      · exact vret rfl
    · rename_i en
      split
      · rename_i u eu
        obtain ⟨xs, e1, e2⟩ := Option.bind_eq_some_iff.mp eu
        obtain ⟨g, k⟩ := q.lst e1
        rw [e1, Option.bind_some] at en
        simp only [bfn, g, Option.bind_some, en, e2]
        exact vret (pur_minT e2)
      · exact True.intro
  · obtain ⟨t, rfl, q⟩ := h.one
    split
    · rename_i xs ex
      simp only [bfn, ints_of q ex]
      split
      · exact True.intro
      · exact vret rfl
    · exact True.intro
  · obtain ⟨t, rfl, q⟩ := h.one
    split
    · rename_i xs ex
      simp only [bfn, ints_of q ex]; exact vret (pur_rol.mpr (purs_ints _))
    · rename_i en
      split
      · rename_i xs ex
        obtain ⟨kvs, e1, e2⟩ := Option.bind_eq_some_iff.mp ex
        obtain ⟨g1, _, g3, _⟩ := q.map e1
        split
        · rename_i c
          simp only [bfn, g3, g1, Option.bind_none, Option.bind_some, e2, c, if_true]; exact vret (pur_rol.mpr (purs_ints _))
        · exact True.intro
      · split
        · rename_i u eu
          obtain ⟨xs, e1, e2⟩ := Option.bind_eq_some_iff.mp eu
          obtain ⟨g, k⟩ := q.lst e1
          rw [e1, Option.bind_some] at en
          simp only [bfn, g, Option.bind_some, en, map_lst g, Option.bind_none, e2]
          exact vret (pur_rol.mpr (pur_sortT e2))
        · exact True.intro
  · obtain ⟨t, rfl, q⟩ := h.one
    split
    · rename_i xs ex
      obtain ⟨ys, e1, e2⟩ := Option.bind_eq_some_iff.mp ex
      obtain ⟨g, _⟩ := q.seq e1
      split
      · rename_i c
        simp only [bfn, g, Option.bind_some, e2, c, if_true]; exact vret (pur_rol.mpr (purs_ints _))
      · exact True.intro
    · exact True.intro
  · obtain ⟨t, u, rfl, q, q'⟩ := h.two; obtain ⟨rfl, _⟩ := q; obtain ⟨rfl, _⟩ := q'; exact vret rfl
  · obtain ⟨t, u, rfl, q, q'⟩ := h.two; obtain ⟨rfl, _⟩ := q; obtain ⟨rfl, _⟩ := q'; exact vret rfl
  · obtain ⟨t, rfl, q⟩ := h.one; obtain ⟨rfl, _⟩ := q; exact vret rfl
  · obtain ⟨t, rfl, q⟩ := h.one; exact pisi_ok q
  · exact True.intro
theorem pmfn_ok {m : M} {t : T} {p : PC} {ts : List T} {ps : List PC} (h : RelA st t p) (h' : RelAs st ts ps) : RelR st (RelA st) (mfn m t ts st) (pmfn m p ps) := by
  cases m <;> first | exact True.intro | skip
  case index =>
    unfold pmfn
    dsimp only
    split
    · rename_i xs0 z0
      obtain ⟨t1, rfl, q⟩ := h'.one
      obtain ⟨rfl, _⟩ := q
      obtain ⟨rfl, _⟩ := h
      simp only [mfn, mIndex]
      cases e : (strsOf xs0).bind (idxS z0) with
      | none => exact True.intro
      | some j => exact vret rfl
    · exact True.intro
  unfold pmfn
  dsimp only
  cases ek : pmap p with
  | none => exact True.intro
  | some kvs =>
    obtain ⟨g1, _, _, k⟩ := h.map ek
    simp only [mfn, mGet, g1]
    match ps, h' with
    | [], _ => exact True.intro
    | [.v u], h' =>
      obtain ⟨w, rfl, hu⟩ := h'.one
      obtain ⟨rfl, _⟩ := hu
      simp only
      split
      · cases e : dLook w kvs with
        | none => exact vret rfl
        | some w => exact vret (pur_look k e)
      · exact True.intro
    | [.v u, .v d], h' =>
      obtain ⟨a, w, rfl, hu, hw⟩ := h'.two
      obtain ⟨rfl, _⟩ := hu; obtain ⟨rfl, kw⟩ := hw
      simp only
      split
      · cases e : dLook a kvs with
        | none => exact vret kw
        | some w => exact vret (pur_look k e)
      · exact True.intro
    | [.l _], _ => exact True.intro
    | [.bl _], _ => exact True.intro
    | [.d _], _ => exact True.intro
    | [.bd _], _ => exact True.intro
    | [.l _, _], _ => exact True.intro
    | [.bl _, _], _ => exact True.intro
    | [.d _, _], _ => exact True.intro
    | [.bd _, _], _ => exact True.intro
    | [.v _, .l _], _ => exact True.intro
    | [.v _, .bl _], _ => exact True.intro
    | [.v _, .d _], _ => exact True.intro
    | [.v _, .bd _], _ => exact True.intro
    | a :: b :: c :: r, _ => cases a <;> cases b <;> exact True.intro
theorem pmOk_ok {m : M} {t : T} {p : PC} (h : RelA st t p) (e : pmOk m p = true) : mOk m t st = true := by
  cases m <;> simp only [pmOk, Bool.false_eq_true] at e
  case index =>
    split at e
    · obtain ⟨rfl, _⟩ := h; rfl
    · cases e
  obtain ⟨kvs, ek⟩ := Option.isSome_iff_exists.mp e
  simp only [mOk, (h.map ek).1, Option.isSome_some]
theorem int_ok {α β : Type} {Rs : α → β → Prop} {t : T} {p : PC} (h : RelA st t p) {f : Int → R α} {g : Int → PR β} (hk : ∀ i, RelR st Rs (f i) (g i)) :
    RelR st Rs (match (generalizing := false) t with | .int i => f i | _ => .stuck) (match (generalizing := false) p with | .v (.int i) => g i | _ => .stuck) := by
  cases p with
  | v u =>
    obtain ⟨rfl, _⟩ := h
    cases t <;> first | exact hk _ | exact True.intro
  | _ => exact True.intro
end
end PF

end

section
set_option Elab.async false
set_option linter.all false
set_option maxRecDepth 10000
set_option maxHeartbeats 4000000
set_option autoImplicit false
/-! PfP3: .. expressions. -/
namespace PF
open PySem
def PC.own : PC → Bool
  | .l _ | .d _ => true
  | _ => false
def PC.bor : PC → Bool
  | .bl _ | .bd _ => true
  | _ => false
/-- slots and their pure picture; own things stand behind k, borrowed ones ahead -/
structure Sim (k : Nat) (st : Store) (sl : Sl) (ps : PSl) : Prop where
  len : ps.length = sl.length
  at_ : ∀ (i : Nat) (p : PC), ps[i]? = some (some p) → ∃ t, sl[i]? = some (some t) ∧ RelA st t p ∧ ∀ n, t = .ref n → (p.own = true → k ≤ n) ∧ (p.bor = true → n < k)
  inj : ∀ (i j : Nat) (p q : PC) (t : T), ps[i]? = some (some p) → ps[j]? = some (some q) → p.own = true → q.own = true → sl[i]? = some (some t) → sl[j]? = some (some t) → i = j
section
variable {k : Nat} {st : Store} {sl : Sl} {ps : PSl}
theorem set_some {α : Type} {l : List (Option α)} {i j : Nat} {x : Option α} {p : α} (h : (l.set i x)[j]? = some (some p)) : (i = j ∧ x = some p ∧ i < l.length) ∨ (i ≠ j ∧ l[j]? = some (some p)) := by
  by_cases e : i = j
  · subst e
    by_cases hl : i < l.length
    · rw [List.getElem?_set_self hl] at h; exact .inl ⟨rfl, Option.some.inj h, hl⟩
    · rw [List.getElem?_eq_none (by rw [List.length_set]; omega)] at h; cases h
  · rw [List.getElem?_set_ne e] at h; exact .inr ⟨e, h⟩
/-- a value is stored -/
theorem Sim.set (S : Sim k st sl ps) (i : Nat) {t : T} {p : PC} (h : RelA st t p) (hb : p.own = false) (hn : ∀ n, t = .ref n → p.bor = true → n < k) : Sim k st (sl.set i (some t)) (ps.set i (some p)) := by
  refine ⟨by rw [List.length_set, List.length_set]; exact S.len, fun j q e => ?_, fun j j' q q' u e e' o o' f f' => ?_⟩
  · rcases set_some e with ⟨rfl, e2, hl⟩ | ⟨hne, e2⟩
    · cases e2
      refine ⟨t, List.getElem?_set_self (by rw [← S.len]; exact hl), h, fun n e => ⟨fun q => (by rw [hb] at q; cases q), hn n e⟩⟩
    · obtain ⟨u, e3, r⟩ := S.at_ j q e2
      exact ⟨u, by rw [List.getElem?_set_ne hne]; exact e3, r⟩
  · rcases set_some e with ⟨rfl, e2, hl⟩ | ⟨hne, e2⟩
    · cases e2; rw [hb] at o; cases o
    · rcases set_some e' with ⟨rfl, e3, hl⟩ | ⟨hne', e3⟩
      · cases e3; rw [hb] at o'; cases o'
      · rw [List.getElem?_set_ne hne] at f
        rw [List.getElem?_set_ne hne'] at f'
        exact S.inj j j' q q' u e2 e3 o o' f f'
theorem Sim.setV (S : Sim k st sl ps) (i : Nat) {t : T} (h : Pur t) : Sim k st (sl.set i (some t)) (ps.set i (some (.v t))) := S.set i ⟨rfl, h⟩ rfl fun n e _ => by subst e; exact h.noref.elim
theorem Sim.wipe1 (S : Sim k st sl ps) (i : Nat) : Sim k st (sl.set i none) (ps.set i none) := by
  refine ⟨by rw [List.length_set, List.length_set]; exact S.len, fun j q e => ?_, fun j j' q q' u e e' o o' f f' => ?_⟩
  · rcases set_some e with ⟨rfl, e2, hl⟩ | ⟨hne, e2⟩
    · cases e2
    · obtain ⟨u, e3, r⟩ := S.at_ j q e2
      exact ⟨u, by rw [List.getElem?_set_ne hne]; exact e3, r⟩
  · rcases set_some e with ⟨rfl, e2, hl⟩ | ⟨hne, e2⟩
    · cases e2
    · rcases set_some e' with ⟨rfl, e3, hl⟩ | ⟨hne', e3⟩
      · cases e3
      · rw [List.getElem?_set_ne hne] at f
        rw [List.getElem?_set_ne hne'] at f'
        exact S.inj j j' q q' u e2 e3 o o' f f'
theorem Sim.wipe (S : Sim k st sl ps) : ∀ vs : List Nat, Sim k st (wipeL sl vs) (pwipe ps vs)
  | [] => S
  | v :: vs => (S.wipe vs).wipe1 v
end

/-- the calls tell what the pure calls tell -/
def ClOk (cl : Call) (pcl : PCall) : Prop := ∀ f ts pcs st, Cls st → RelAs st ts pcs → RelR st (fun v u => v = u ∧ Pur u) (cl f ts st) (pcl f pcs)
/-- what is walked, at this store -/
def RelJ (st : Store) (J : Itv) (p : PIt) : Prop := J.len st = some p.len ∧ ∀ i x, p.get i = some x → J.get st i = some x ∧ Pur x
theorem pairT_some' {a b : Option T} {p : T} (h : pairT a b = some p) : ∃ t u, a = some t ∧ b = some u ∧ p = .tup [t, u] := by
  cases a with
  | none => cases h
  | some t => cases b with
    | none => cases h
    | some u => cases h; exact ⟨t, u, rfl, rfl, rfl⟩
theorem pur_pair {t u : T} (h : Pur t) (h' : Pur u) : Pur (.tup [t, u]) := pur_tup.mpr (lims_iff.mpr fun x hx => by
  simp only [List.mem_cons, List.not_mem_nil, or_false] at hx
  rcases hx with rfl | rfl <;> assumption)
section
variable {st : Store}
theorem seq_unC {t : T} : seqOf st (unC t) = seqOf st t := by cases t <;> rfl
theorem relJ_sq {t : T} {p : PC} {xs : List T} (h : RelA st t p) (e : pseq p = some xs) : RelJ st (.sq (unC t)) (.sq xs) := by
  obtain ⟨g, k⟩ := h.seq e
  rw [← seq_unC] at g
  exact ⟨by simp only [Itv.len, g]; rfl, fun i x ex => ⟨by simp only [Itv.get, g]; exact ex, purs_get k ex⟩⟩
theorem relJ_keys {kvs : List (T × T)} (k : Pur (.rod kvs)) : RelJ st (.keys kvs) (.sq (kvs.map (·.1))) := by
  refine ⟨by simp only [Itv.len, PIt.len, List.length_map], fun i x ex => ?_⟩
  simp only [PIt.get, List.getElem?_map] at ex
  refine ⟨ex, ?_⟩
  obtain ⟨p, e1, rfl⟩ := Option.map_eq_some_iff.mp ex
  exact (limK_iff.mp (pur_rod.mp k) p (List.mem_of_getElem? e1)).1
theorem relJ_enum {t : T} {p : PC} {xs : List T} (h : RelA st t p) (e : pseq p = some xs) : RelJ st (.enum (unC t)) (.enum xs) := by
  obtain ⟨g, k⟩ := h.seq e
  rw [← seq_unC] at g
  refine ⟨by simp only [Itv.len, g]; rfl, fun i x ex => ?_⟩
  simp only [PIt.get] at ex
  obtain ⟨a, b, e1, e2, rfl⟩ := pairT_some' ex
  refine ⟨by simp only [Itv.get, g]; exact ex, ?_⟩
  cases e1
  exact pur_pair rfl (purs_get k e2)
theorem relJ_zip {t u : T} {p q : PC} {xs ys : List T} (h : RelA st t p) (e : pseq p = some xs) (h' : RelA st u q) (e' : pseq q = some ys) : RelJ st (.zip (unC t) (unC u)) (.zip xs ys) := by
  obtain ⟨g, k⟩ := h.seq e
  obtain ⟨g', k'⟩ := h'.seq e'
  rw [← seq_unC] at g g'
  refine ⟨by simp only [Itv.len, g, g']; rfl, fun i x ex => ?_⟩
  simp only [PIt.get] at ex
  obtain ⟨a, b, e1, e2, rfl⟩ := pairT_some' ex
  exact ⟨by simp only [Itv.get, g, g']; exact ex, pur_pair (purs_get k e1) (purs_get k' e2)⟩
theorem relJ_ofI {J : Itv} {p : PIt} (e : PIt.ofI J = some p) : RelJ st J p := by
  unfold PIt.ofI at e
  split at e
  · cases e; exact ⟨rfl, fun i x ex => ⟨ex, by simp only [PIt.get] at ex; split at ex <;> cases ex; rfl⟩⟩
  · cases e; exact ⟨rfl, fun i x ex => ⟨ex, by simp only [PIt.get] at ex; split at ex <;> cases ex; rfl⟩⟩
  · cases e
theorem pcompL_ok {J : Itv} {p : PIt} (hJ : RelJ st J p) {body : T → Store → R (Option T)} {pb : T → PR (Option T)} (hb : ∀ x, Pur x → RelR st (fun a b => a = b ∧ ∀ y, b = some y → Pur y) (body x st) (pb x)) :
    ∀ (n i : Nat) (acc : List T), i + n = p.len → Purs acc → RelR st (fun a b => a = b ∧ Purs b) (compL J body n i acc st) (pcompL p pb n i acc)
  | 0, i, acc, e, h => by
    unfold compL pcompL
    rw [if_pos (by rw [hJ.1, ← e]; rfl)]
    exact ⟨acc, rfl, rfl, h⟩
  | n + 1, i, acc, e, h => by
    unfold compL pcompL
    cases ex : p.get i with
    | none => exact True.intro
    | some x =>
      obtain ⟨g, kx⟩ := hJ.2 i x ex
      rw [g]
      refine (hb x kx).bind fun a b q => ?_
      obtain ⟨rfl, q⟩ := q
      cases a with
      | none => exact pcompL_ok hJ hb n (i + 1) acc (by omega) h
      | some y =>
        dsimp only
        split
        · exact pcompL_ok hJ hb n (i + 1) _ (by omega) (purs_app h (purs_one (q y rfl)))
        · exact True.intro
theorem pcompN_ok {J : Itv} {p : PIt} (hJ : RelJ st J p) {body : T → List T → Store → R (List T)} {pb : T → List T → PR (List T)} (hb : ∀ x acc, Pur x → Purs acc → RelR st (fun a b => a = b ∧ Purs b) (body x acc st) (pb x acc)) :
    ∀ (n i : Nat) (acc : List T), i + n = p.len → Purs acc → RelR st (fun a b => a = b ∧ Purs b) (compN J body n i acc st) (pcompN p pb n i acc)
  | 0, i, acc, e, h => by
    unfold compN pcompN
    rw [if_pos (by rw [hJ.1, ← e]; rfl)]
    exact ⟨acc, rfl, rfl, h⟩
  | n + 1, i, acc, e, h => by
    unfold compN pcompN
    cases ex : p.get i with
    | none => exact True.intro
    | some x =>
      obtain ⟨g, kx⟩ := hJ.2 i x ex
      rw [g]
      refine (hb x acc kx h).bind fun a b q => ?_
      obtain ⟨rfl, q⟩ := q
      exact pcompN_ok hJ hb n (i + 1) a (by omega) q
theorem pcompD_ok {J : Itv} {p : PIt} (hJ : RelJ st J p) {body : T → Store → R (Option (T × T))} {pb : T → PR (Option (T × T))} (hb : ∀ x, Pur x → RelR st (fun a b => a = b ∧ ∀ y, b = some y → Pur y.1 ∧ Pur y.2) (body x st) (pb x)) :
    ∀ (n i : Nat) (acc : List (T × T)), i + n = p.len → PurK acc → RelR st (fun a b => a = b ∧ PurK b) (compD J body n i acc st) (pcompD p pb n i acc)
  | 0, i, acc, e, h => by
    unfold compD pcompD
    rw [if_pos (by rw [hJ.1, ← e]; rfl)]
    exact ⟨acc, rfl, rfl, h⟩
  | n + 1, i, acc, e, h => by
    unfold compD pcompD
    cases ex : p.get i with
    | none => exact True.intro
    | some x =>
      obtain ⟨g, kx⟩ := hJ.2 i x ex
      rw [g]
      refine (hb x kx).bind fun a b q => ?_
      obtain ⟨rfl, q⟩ := q
      cases a with
      | none => exact pcompD_ok hJ hb n (i + 1) acc (by omega) h
      | some y =>
        dsimp only
        split
        · exact pcompD_ok hJ hb n (i + 1) _ (by omega) (pur_put h (q y rfl).1 (q y rfl).2)
        · exact True.intro
theorem RelA.arg {t : T} {p : PC} (h : RelA st t p) : RelA st t p.arg := by
  cases p <;> exact h
theorem RelAs.arg : ∀ {ts : List T} {ps : List PC}, RelAs st ts ps → RelAs st ts (ps.map PC.arg)
  | _, _, .nil => .nil
  | _, _, .cons h hs => .cons h.arg (RelAs.arg hs)
theorem RelR.ofV {r : R T} {p : PR T} (h : RelR st (fun v u => v = u ∧ Pur u) r p) : RelR st (RelA st) r (p.bind fun t => .ok (.v t)) := by
  cases p with
  | ok u => obtain ⟨v, rfl, rfl, q⟩ := h; exact ⟨v, rfl, rfl, q⟩
  | exc x => exact h
  | stuck => exact True.intro
theorem RelR.newV {r : R (List T)} {p : PR (List T)} (h : RelR st (fun a b => a = b ∧ Purs b) r p) : RelR st (RelA st) (r.bind fun xs st => newL false xs st).noExc (p.bind fun xs => .ok (.v (.rol xs))).noExc :=
  (h.bind fun a b q => by obtain ⟨rfl, q⟩ := q; exact vret (pur_rol.mpr q)).noExc
theorem RelR.newVD {r : R (List (T × T))} {p : PR (List (T × T))} (h : RelR st (fun a b => a = b ∧ PurK b) r p) : RelR st (RelA st) (r.bind fun xs st => newD false xs st).noExc (p.bind fun xs => .ok (.v (.rod xs))).noExc :=
  (h.bind fun a b q => by obtain ⟨rfl, q⟩ := q; exact vret (pur_rod.mpr q)).noExc

variable {cl : Call} {pcl : PCall} {G : Tab} {k : Nat}
mutual
theorem simE (hcl : ClOk cl pcl) (hst : Cls st) : ∀ (e : E) {sl : Sl} {ps : PSl}, Sim k st sl ps → RelR st (RelA st) (evE cl G e sl st) (pE pcl G e ps)
  | .var i, sl, ps, S => by
    unfold evE pE
    cases e : ps[i]? with
    | none => exact True.intro
    | some o => cases o with
      | none => exact True.intro
      | some p =>
        obtain ⟨t, e1, r, _⟩ := S.at_ i p e
        rw [e1]; exact ⟨t, rfl, r⟩
  | .cst t, sl, ps, S => by
    unfold evE pE
    split
    · rename_i h; exact vret h
    · exact True.intro
  | .glb x, sl, ps, S => by
    unfold evE pE
    cases e : G.consts[x]? with
    | none => exact True.intro
    | some t =>
      dsimp only
      split
      · rename_i h; exact vret h
      · exact True.intro
  | .tup es, sl, ps, S => by
    unfold evE pE
    refine (simEs hcl hst es S).bind fun a b q => ?_
    obtain ⟨rfl, q⟩ := q
    split
    · exact vret (pur_tup.mpr q)
    · exact True.intro
  | .ctp es, sl, ps, S => by
    unfold evE pE
    refine (simEs hcl hst es S).bind fun a b q => ?_
    obtain ⟨rfl, q⟩ := q
    split
    · exact vret (pur_ctp.mpr q)
    · exact True.intro
  | .lst m es, sl, ps, S => by
    unfold evE pE
    cases m with
    | true => exact True.intro
    | false =>
      refine (simEs hcl hst es S).bind fun a b q => ?_
      obtain ⟨rfl, q⟩ := q
      split
      · exact vret (pur_rol.mpr q)
      · exact True.intro
  | .dct m kvs, sl, ps, S => by
    unfold evE pE
    cases m with
    | true => exact True.intro
    | false =>
      refine (simKV hcl hst kvs S).bind fun a b q => ?_
      obtain ⟨rfl, q⟩ := q
      split
      · exact vret (pur_rod.mpr (pur_fold q rfl))
      · exact True.intro
  | .fz _, sl, ps, S => True.intro
  | .rep m e n, sl, ps, S => by
    unfold evE pE
    cases m with
    | true => exact True.intro
    | false =>
      refine (simE hcl hst e S).bindV fun t kt => (simE hcl hst n S).bind fun a b q => ?_
      refine int_ok q fun i => ?_
      split
      · exact vret (pur_rol.mpr (purs_rep kt))
      · exact True.intro
  | .bin op a b, sl, ps, S => by
    unfold evE pE
    exact (simE hcl hst a S).bind fun t p q => (simE hcl hst b S).bind fun u p' q' => pbin_ok q q'
  | .neg a, sl, ps, S => by
    unfold evE pE
    exact (simE hcl hst a S).bind fun t p q => int_ok q fun i => vret rfl
  | .cmp op a b, sl, ps, S => by
    unfold evE pE
    exact (simE hcl hst a S).bind fun t p q => (simE hcl hst b S).bind fun u p' q' => bret fun b e => pcmp_ok q q' e
  | .chn op op' a b c, sl, ps, S => by
    unfold evE pE
    refine (simE hcl hst a S).bind fun t p q => (simE hcl hst b S).bind fun u p' q' => (obret fun b e => pcmp_ok q q' e).bind fun x y e => ?_
    subst e
    split
    · exact (simE hcl hst c S).bind fun w p'' q'' => bret fun b e => pcmp_ok q' q'' e
    · exact vret rfl
  | .and a b, sl, ps, S => by
    unfold evE pE
    refine (simE hcl hst a S).bind fun t p q => q.truR.bind fun x y e => ?_
    subst e
    split
    · exact simE hcl hst b S
    · exact ⟨t, rfl, q⟩
  | .or a b, sl, ps, S => by
    unfold evE pE
    refine (simE hcl hst a S).bind fun t p q => q.truR.bind fun x y e => ?_
    subst e
    split
    · exact ⟨t, rfl, q⟩
    · exact simE hcl hst b S
  | .not a, sl, ps, S => by
    unfold evE pE
    refine (simE hcl hst a S).bind fun t p q => q.truR.bind fun x y e => ?_
    subst e
    exact vret rfl
  | .ite c a b, sl, ps, S => by
    unfold evE pE
    refine (simE hcl hst c S).bind fun t p q => q.truR.bind fun x y e => ?_
    subst e
    split
    · exact simE hcl hst a S
    · exact simE hcl hst b S
  | .call f es, sl, ps, S => by
    unfold evE pE
    exact (simAs hcl hst es S).bind fun ts pcs q => (hcl f ts _ st hst q).ofV
  | .make _ _, sl, ps, S => True.intro
  | .bcall b es, sl, ps, S => by
    unfold evE pE
    exact (simAs hcl hst es S).bind fun ts pcs q => pbfn_ok q
  | .mcall m o es, sl, ps, S => by
    unfold evE pE
    refine (simE hcl hst o S).bind fun t p q => ?_
    by_cases hm : pmOk m p = true
    · rw [if_pos hm, if_pos (pmOk_ok q hm)]
      exact (simAs hcl hst es S).bind fun ts pcs q' => pmfn_ok q q'
    · rw [if_neg hm]; exact True.intro
  | .own _ _ _, sl, ps, S => True.intro
  | .fld _ _, sl, ps, S => True.intro
  | .compx _ _ _ _ _, sl, ps, S => True.intro
  | .ix a i, sl, ps, S => by
    unfold evE pE
    exact (simE hcl hst a S).bind fun t p q => (simE hcl hst i S).bind fun u p' q' => pix_ok q q'
  | .slc a lo hi, sl, ps, S => by
    unfold evE pE
    refine (simE hcl hst a S).bind fun t p q => (simEo hcl hst lo S).bind fun x y e => (simEo hcl hst hi S).bind fun x' y' e' => ?_
    subst e; subst e'
    exact pslc_ok q
  | .rev a, sl, ps, S => by
    unfold evE pE
    exact (simE hcl hst a S).bind fun t p q => prev_ok q
  | .comp m tg it c e own, sl, ps, S => by
    unfold evE pE
    cases m with
    | true => exact True.intro
    | false =>
      refine (simIt hcl hst true it S).bind fun J p hJ => ?_
      rw [hJ.1]
      exact (pcompL_ok hJ (fun x kx => (simTg hcl hst tg kx (S.wipe own)).bind fun sl' ps' S' => (simC hcl hst c S').bind fun a b e' => by
        subst e'
        split
        · exact (simE hcl hst e S').bindV fun t kt => ⟨some t, rfl, rfl, fun y e => by cases e; exact kt⟩
        · exact ⟨none, rfl, rfl, fun y e => by cases e⟩) p.len 0 [] (Nat.zero_add _) rfl).newV
  | .comp2 m tg it c tg1 it1 c1 e own own1, sl, ps, S => by
    unfold evE pE
    cases m with
    | true => exact True.intro
    | false =>
      refine (simIt hcl hst true it S).bind fun J p hJ => ?_
      rw [hJ.1]
      exact (pcompN_ok hJ (fun x acc kx ka => (simTg hcl hst tg kx (S.wipe own)).bind fun sl' ps' S' => (simC hcl hst c S').bind fun a b e' => by
        subst e'
        split
        · refine (simIt hcl hst true it1 S').bind fun J1 p1 hJ1 => ?_
          rw [hJ1.1]
          exact pcompL_ok hJ1 (fun x kx => (simTg hcl hst tg1 kx (S'.wipe own1)).bind fun sl' ps' S' => (simC hcl hst c1 S').bind fun a b e' => by
            subst e'
            split
            · exact (simE hcl hst e S').bindV fun t kt => ⟨some t, rfl, rfl, fun y e => by cases e; exact kt⟩
            · exact ⟨none, rfl, rfl, fun y e => by cases e⟩) p1.len 0 acc (Nat.zero_add _) ka
        · exact ⟨acc, rfl, rfl, ka⟩) p.len 0 [] (Nat.zero_add _) rfl).newV
  | .dcomp m tg it c kx vx own, sl, ps, S => by
    unfold evE pE
    cases m with
    | true => exact True.intro
    | false =>
      refine (simIt hcl hst true it S).bind fun J p hJ => ?_
      rw [hJ.1]
      exact (pcompD_ok hJ (fun x kx' => (simTg hcl hst tg kx' (S.wipe own)).bind fun sl' ps' S' => (simC hcl hst c S').bind fun a b e' => by
        subst e'
        split
        · exact (simE hcl hst kx S').bindV fun t kt => (simE hcl hst vx S').bindV fun u ku => ⟨some (t, u), rfl, rfl, fun y e => by cases e; exact ⟨kt, ku⟩⟩
        · exact ⟨none, rfl, rfl, fun y e => by cases e⟩) p.len 0 [] (Nat.zero_add _) rfl).newVD
theorem simEs (hcl : ClOk cl pcl) (hst : Cls st) : ∀ (es : Es) {sl : Sl} {ps : PSl}, Sim k st sl ps → RelR st (fun a b => a = b ∧ Purs b) (evEs cl G es sl st) (pEs pcl G es ps)
  | .nil, sl, ps, S => by unfold evEs pEs; exact ⟨[], rfl, rfl, rfl⟩
  | .cons e es, sl, ps, S => by
    unfold evEs pEs
    refine (simE hcl hst e S).bindV fun t kt => (simEs hcl hst es S).bind fun a b q => ?_
    obtain ⟨rfl, q⟩ := q
    exact ⟨_, rfl, rfl, by simp only [Purs, T.lims, Bool.and_eq_true]; exact ⟨kt, q⟩⟩
theorem simAs (hcl : ClOk cl pcl) (hst : Cls st) : ∀ (es : Es) {sl : Sl} {ps : PSl}, Sim k st sl ps → RelR st (RelAs st) (evEs cl G es sl st) (pAs pcl G es ps)
  | .nil, sl, ps, S => by unfold evEs pAs; exact ⟨[], rfl, .nil⟩
  | .cons e es, sl, ps, S => by
    unfold evEs pAs
    exact (simE hcl hst e S).bind fun t p q => (simAs hcl hst es S).bind fun a b q' => ⟨_, rfl, .cons q q'⟩
theorem simKV (hcl : ClOk cl pcl) (hst : Cls st) : ∀ (es : KVs) {sl : Sl} {ps : PSl}, Sim k st sl ps → RelR st (fun a b => a = b ∧ PurK b) (evKV cl G es sl st) (pKV pcl G es ps)
  | .nil, sl, ps, S => by unfold evKV pKV; exact ⟨[], rfl, rfl, rfl⟩
  | .cons x v r, sl, ps, S => by
    unfold evKV pKV
    refine (simE hcl hst x S).bindV fun t kt => (simE hcl hst v S).bindV fun u ku => (simKV hcl hst r S).bind fun a b q => ?_
    obtain ⟨rfl, q⟩ := q
    split
    · exact ⟨_, rfl, rfl, by simp only [PurK, T.limK, Bool.and_eq_true]; exact ⟨⟨kt, ku⟩, q⟩⟩
    · exact True.intro
theorem simEo (hcl : ClOk cl pcl) (hst : Cls st) : ∀ (e : Eo) {sl : Sl} {ps : PSl}, Sim k st sl ps → RelR st (fun a b => a = b) (evEo cl G e sl st) (pEo pcl G e ps)
  | .none, sl, ps, S => by unfold evEo pEo; exact ⟨none, rfl, rfl⟩
  | .some e, sl, ps, S => by
    unfold evEo pEo
    exact (simE hcl hst e S).bind fun t p q => int_ok q fun i => ⟨_, rfl, rfl⟩
theorem simC (hcl : ClOk cl pcl) (hst : Cls st) : ∀ (e : Eo) {sl : Sl} {ps : PSl}, Sim k st sl ps → RelR st (fun a b => a = b) (evC cl G e sl st) (pC pcl G e ps)
  | .none, sl, ps, S => by unfold evC pC; exact ⟨true, rfl, rfl⟩
  | .some e, sl, ps, S => by
    unfold evC pC
    exact (simE hcl hst e S).bind fun t p q => q.truR
theorem simIt (hcl : ClOk cl pcl) (hst : Cls st) (own : Bool) : ∀ (it : It) {sl : Sl} {ps : PSl}, Sim k st sl ps → RelR st (RelJ st) (evIt cl G it sl st) (pIt pcl G own it ps)
  | .val e, sl, ps, S => by
    unfold evIt pIt
    refine (simE hcl hst e S).bind fun t p q => ?_
    unfold pwalk
    cases e1 : pseqO own p with
    | none =>
      dsimp only
      split
      · rename_i kvs
        obtain ⟨rfl, k⟩ := q
        exact ⟨.keys kvs, rfl, relJ_keys k⟩
      · exact True.intro
    | some xs =>
      have e2 := pseqO_seq e1
      exact ⟨.sq (unC t), by simp only [itVal, (q.seq e2).1]; rfl, relJ_sq q e2⟩
  | .range es, sl, ps, S => by
    unfold evIt pIt
    refine (simEs hcl hst es S).bind fun a b q => ?_
    obtain ⟨rfl, q⟩ := q
    cases e : itRange a with
    | none => exact True.intro
    | some J =>
      cases e2 : PIt.ofI J with
      | none => rw [Option.bind_some, e2]; exact True.intro
      | some p => rw [Option.bind_some, e2]; exact ⟨J, rfl, relJ_ofI e2⟩
  | .enum e, sl, ps, S => by
    unfold evIt pIt
    refine (simE hcl hst e S).bind fun t p q => ?_
    cases e1 : pseqO own p with
    | none => exact True.intro
    | some xs =>
      have e2 := pseqO_seq e1
      exact ⟨.enum (unC t), by simp only [itEnum, (q.seq e2).1]; rfl, relJ_enum q e2⟩
  | .zip a b, sl, ps, S => by
    unfold evIt pIt
    refine (simE hcl hst a S).bind fun t p q => (simE hcl hst b S).bind fun u p' q' => ?_
    cases e1 : pseqO own p with
    | none => exact True.intro
    | some xs =>
      cases e2 : pseqO own p' with
      | none => exact True.intro
      | some ys =>
        have f1 := pseqO_seq e1
        have f2 := pseqO_seq e2
        exact ⟨.zip (unC t) (unC u), by simp only [itZip, (q.seq f1).1, (q'.seq f2).1]; rfl, relJ_zip q f1 q' f2⟩
theorem simTg (hcl : ClOk cl pcl) (hst : Cls st) : ∀ (tg : Tg) {x : T}, Pur x → ∀ {sl : Sl} {ps : PSl}, Sim k st sl ps → RelR st (Sim k st) (evTg cl G tg x sl st) (pTg pcl G tg x ps)
  | .nm i, x, kx, sl, ps, S => by unfold evTg pTg; exact ⟨_, rfl, S.setV i kx⟩
  | .tup ts, x, kx, sl, ps, S => by
    unfold evTg pTg
    cases x <;> first | exact True.intro | skip
    · dsimp only
      split
      · exact simTgs hcl hst ts (pur_tup.mp kx) S
      · exact True.intro
    · dsimp only
      split
      · exact simTgs hcl hst ts (pur_rol.mp kx) S
      · exact True.intro
  | .sub _ _, x, kx, sl, ps, S => by unfold pTg; exact True.intro
  | .fld _ _, x, kx, sl, ps, S => by unfold pTg; exact True.intro
theorem simTgs (hcl : ClOk cl pcl) (hst : Cls st) : ∀ (ts : Tgs) {xs : List T}, Purs xs → ∀ {sl : Sl} {ps : PSl}, Sim k st sl ps → RelR st (Sim k st) (evTgs cl G ts xs sl st) (pTgs pcl G ts xs ps)
  | .nil, [], _, sl, ps, S => by unfold evTgs pTgs; exact ⟨_, rfl, S⟩
  | .nil, x :: xs, _, sl, ps, S => by unfold pTgs; exact True.intro
  | .cons t ts, [], _, sl, ps, S => by unfold pTgs; exact True.intro
  | .cons t ts, x :: xs, h, sl, ps, S => by
    unfold evTgs pTgs
    simp only [Purs, T.lims, Bool.and_eq_true] at h
    exact (simTg hcl hst t h.1 S).bind fun sl' ps' S' => simTgs hcl hst ts h.2 S'
end
end
end PF

end

section
set_option Elab.async false
set_option linter.all false
set_option maxRecDepth 10000
set_option maxHeartbeats 4000000
set_option autoImplicit false
/-! PfP4: .. statements and calls. -/
namespace PF
open PySem
structure SimS (st0 st : Store) (sl : Sl) (ps : PSl) : Prop where
  sim : Sim st0.length st sl ps
  cls : Cls st
  pre : st.take st0.length = st0
  le : st0.length ≤ st.length
def RelS (st0 : Store) (r : RS) : PRS → Prop
  | .nx ps => ∃ sl st, r = .nx sl st ∧ SimS st0 st sl ps
  | .bk ps => ∃ sl st, r = .bk sl st ∧ SimS st0 st sl ps
  | .ct ps => ∃ sl st, r = .ct sl st ∧ SimS st0 st sl ps
  | .rt t => ∃ st, r = .rt t st ∧ Pur t ∧ st.take st0.length = st0
  | .xc x ps => ∃ sl st, r = .xc x sl st ∧ PurX x ∧ SimS st0 st sl ps
  | .stuck => True
section
variable {st0 st : Store} {sl : Sl} {ps : PSl}
theorem RelR.thenS {α β : Type} {Rr : α → β → Prop} {r : R α} {p : PR β} {f : α → Store → RS} {g : β → PRS} (h : RelR st Rr r p) (S : SimS st0 st sl ps) (hk : ∀ a b, Rr a b → RelS st0 (f a st) (g b)) : RelS st0 (r.thenS sl f) (p.thenS ps g) := by
  cases p with
  | ok b => obtain ⟨a, rfl, q⟩ := h; exact hk a b q
  | exc x => obtain ⟨rfl, q⟩ := h; exact ⟨sl, st, rfl, q, S⟩
  | stuck => exact True.intro
mutual
theorem T.lim_le {m n : Nat} (h : m ≤ n) : ∀ {t : T}, t.lim m = true → t.lim n = true
  | .non, _ => by rw [T.lim] <;> simp
  | .bl _, _ => by rw [T.lim] <;> simp
  | .int _, _ => by rw [T.lim] <;> simp
  | .str _, _ => by rw [T.lim] <;> simp
  | .fn _, _ => by rw [T.lim] <;> simp
  | .ref k, e => by simp only [T.lim, decide_eq_true_eq] at e ⊢; omega
  | .tup l, e => by rw [T.lim] at e ⊢; exact T.lims_le h e
  | .rol l, e => by rw [T.lim] at e ⊢; exact T.lims_le h e
  | .ctp l, e => by rw [T.lim] at e ⊢; exact T.lims_le h e
  | .rod l, e => by rw [T.lim] at e ⊢; exact T.limK_le h e
theorem T.lims_le {m n : Nat} (h : m ≤ n) : ∀ {t : List T}, T.lims m t = true → T.lims n t = true
  | [], _ => by rw [T.lims]
  | x :: xs, e => by
    rw [T.lims, Bool.and_eq_true] at e ⊢
    exact ⟨T.lim_le h e.1, T.lims_le h e.2⟩
theorem T.limK_le {m n : Nat} (h : m ≤ n) : ∀ {t : List (T × T)}, T.limK m t = true → T.limK n t = true
  | [], _ => by rw [T.limK]
  | (x, y) :: xs, e => by
    rw [T.limK, Bool.and_eq_true, Bool.and_eq_true] at e ⊢
    exact ⟨⟨T.lim_le h e.1.1, T.lim_le h e.1.2⟩, T.limK_le h e.2⟩
end
theorem Cell.lim_le {m n : Nat} (h : m ≤ n) {c : Cell} (hc : c.lim m = true) : c.lim n = true := by
  cases c with
  | lst xs => simp only [Cell.lim] at hc ⊢; exact lims_iff.mpr fun x hx => T.lim_le h (lims_iff.mp hc x hx)
  | dic xs => simp only [Cell.lim] at hc ⊢; exact limK_iff.mpr fun x hx => ⟨T.lim_le h (limK_iff.mp hc x hx).1, T.lim_le h (limK_iff.mp hc x hx).2⟩
  | ins c fs => simp only [Cell.lim, List.all_eq_true] at hc ⊢; exact fun x hx => T.lim_le h (hc x hx)
  | dead => rfl
theorem Cell.lim_of0 {c : Cell} {n : Nat} (h : c.lim 0 = true) : c.lim n = true := Cell.lim_le (Nat.zero_le _) h
theorem Cls.closed (h : Cls st) : Closed st st.length = true := by
  unfold Closed; rw [List.all_eq_true]; exact h
theorem Cls.app (h : Cls st) {c : Cell} (hc : c.lim (st.length + 1) = true) : Cls (st ++ [c]) := by
  intro d hd
  rw [List.length_append, List.length_singleton]
  rcases List.mem_append.mp hd with hd | hd
  · exact Cell.lim_le (Nat.le_succ _) (h d hd)
  · rw [List.mem_singleton.mp hd]; exact hc
theorem Cls.set (h : Cls st) {n : Nat} {c : Cell} (hc : c.lim st.length = true) : Cls (st.set n c) := by
  intro d hd
  rw [List.length_set]
  rcases List.mem_or_eq_of_mem_set hd with hd | rfl
  · exact h d hd
  · exact hc
theorem lt_of_get {n : Nat} {c : Cell} (h : st[n]? = some c) : n < st.length := (List.getElem?_eq_some_iff.mp h).1
theorem RelA.app {t : T} {p : PC} {c : Cell} (h : RelA st t p) : RelA (st ++ [c]) t p := by
  have key : ∀ {n : Nat} {d : Cell}, st[n]? = some d → (st ++ [c])[n]? = some d := fun e => by rw [List.getElem?_append_left (lt_of_get e)]; exact e
  cases p with
  | v u => exact h
  | l xs => obtain ⟨n, e, g, q⟩ := h; exact ⟨n, e, key g, q⟩
  | bl xs => obtain ⟨n, e, g, q⟩ := h; exact ⟨n, e, key g, q⟩
  | d xs => obtain ⟨n, e, g, q⟩ := h; exact ⟨n, e, key g, q⟩
  | bd xs => obtain ⟨n, e, g, q⟩ := h; exact ⟨n, e, key g, q⟩
/-- the cell of a thing of one's own -/
def PC.cell : PC → Option Cell
  | .l xs => if T.lims 0 xs then some (.lst xs) else none
  | .d kvs => if T.limK 0 kvs then some (.dic kvs) else none
  | _ => none
theorem PC.cell_own {p : PC} {c : Cell} (h : p.cell = some c) : p.own = true ∧ p.bor = false ∧ c.lim 0 = true ∧ ∀ (st : Store) n, st[n]? = some c → RelA st (.ref n) p := by
  cases p with
  | l xs =>
    simp only [PC.cell] at h
    split at h
    · rename_i hp
      cases h
      exact ⟨rfl, rfl, hp, fun st n e => ⟨n, rfl, e, hp⟩⟩
    · cases h
  | d xs =>
    simp only [PC.cell] at h
    split at h
    · rename_i hp
      cases h
      exact ⟨rfl, rfl, hp, fun st n e => ⟨n, rfl, e, hp⟩⟩
    · cases h
  | _ => cases h
theorem RelA.own_cell {t : T} {p : PC} (h : RelA st t p) (ho : p.own = true ∨ p.bor = true) : ∃ n c, t = .ref n ∧ st[n]? = some c := by
  cases p with
  | v u => rcases ho with ho | ho <;> cases ho
  | l xs => obtain ⟨n, e, g, q⟩ := h; exact ⟨n, _, e, g⟩
  | bl xs => obtain ⟨n, e, g, q⟩ := h; exact ⟨n, _, e, g⟩
  | d xs => obtain ⟨n, e, g, q⟩ := h; exact ⟨n, _, e, g⟩
  | bd xs => obtain ⟨n, e, g, q⟩ := h; exact ⟨n, _, e, g⟩
/-- a new thing of one's own in slot i -/
theorem SimS.push (S : SimS st0 st sl ps) (i : Nat) {p : PC} {c : Cell} (hc : p.cell = some c) : SimS st0 (st ++ [c]) (sl.set i (some (.ref st.length))) (ps.set i (some p)) := by
  obtain ⟨ho, hb, hl, hr⟩ := PC.cell_own hc
  have hn : (st ++ [c])[st.length]? = some c := by simp
  refine ⟨⟨by rw [List.length_set, List.length_set]; exact S.sim.len, fun j q e => ?_, fun j j' q q' u e e' o o' f f' => ?_⟩, S.cls.app (Cell.lim_of0 hl), by rw [List.take_append_of_le_length S.le]; exact S.pre, by rw [List.length_append]; have := S.le; omega⟩
  · rcases set_some e with ⟨rfl, e2, hl⟩ | ⟨hne, e2⟩
    · cases e2
      refine ⟨.ref st.length, List.getElem?_set_self (by rw [← S.sim.len]; exact hl), hr _ _ hn, fun n e => ?_⟩
      cases e
      exact ⟨fun _ => S.le, fun q => by rw [hb] at q; cases q⟩
    · obtain ⟨u, e3, r, z⟩ := S.sim.at_ j q e2
      exact ⟨u, by rw [List.getElem?_set_ne hne]; exact e3, r.app, z⟩
  · have other : ∀ {j : Nat} {q : PC} {u : T}, ps[j]? = some (some q) → q.own = true → sl[j]? = some (some u) → u ≠ .ref st.length := fun {j q u} e o f eu => by
      obtain ⟨w, e3, r, z⟩ := S.sim.at_ j q e
      rw [f] at e3; cases e3
      obtain ⟨n, c', e4, g⟩ := r.own_cell (.inl o)
      rw [eu] at e4; cases e4
      have := lt_of_get g
      omega
    rcases set_some e with ⟨rfl, e2, hl⟩ | ⟨hne, e2⟩
    · rw [List.getElem?_set_self (by rw [← S.sim.len]; exact hl)] at f
      cases f
      rcases set_some e' with ⟨rfl, e3, _⟩ | ⟨hne', e3⟩
      · rfl
      · rw [List.getElem?_set_ne hne'] at f'
        exact absurd rfl (other e3 o' f')
    · rw [List.getElem?_set_ne hne] at f
      rcases set_some e' with ⟨rfl, e3, hl⟩ | ⟨hne', e3⟩
      · rw [List.getElem?_set_self (by rw [← S.sim.len]; exact hl)] at f'
        cases f'
        exact absurd rfl (other e2 o f)
      · rw [List.getElem?_set_ne hne'] at f'
        exact S.sim.inj j j' q q' u e2 e3 o o' f f'
/-- a thing of one's own is written -/
theorem SimS.write (S : SimS st0 st sl ps) {i n : Nat} {p q : PC} {c : Cell} (hp : ps[i]? = some (some p)) (ho : p.own = true) (hs : sl[i]? = some (some (.ref n))) (hc : q.cell = some c) : SimS st0 (st.set n c) sl (ps.set i (some q)) := by
  obtain ⟨ho', hb', hl', hr⟩ := PC.cell_own hc
  obtain ⟨w, e3, r, z⟩ := S.sim.at_ i p hp
  rw [hs] at e3; cases e3
  obtain ⟨n', c', e4, g⟩ := r.own_cell (.inl ho)
  cases e4
  have hk := (z n rfl).1 ho
  have hnl := lt_of_get g
  refine ⟨⟨by rw [List.length_set]; exact S.sim.len, fun j q' e => ?_, fun j j' q1 q2 u e e' o o' f f' => ?_⟩, S.cls.set (Cell.lim_of0 hl'), by rw [List.take_set_of_le hk]; exact S.pre, by rw [List.length_set]; exact S.le⟩
  · rcases set_some e with ⟨rfl, e2, hl⟩ | ⟨hne, e2⟩
    · cases e2
      exact ⟨.ref n, hs, hr _ _ (List.getElem?_set_self hnl), fun m e => by cases e; exact ⟨fun _ => hk, fun q => by rw [hb'] at q; cases q⟩⟩
    · obtain ⟨u, e5, r', z'⟩ := S.sim.at_ j q' e2
      refine ⟨u, e5, ?_, z'⟩
      have key : q'.own = true ∨ q'.bor = true → u ≠ .ref n := fun hq eu => by
        subst eu
        rcases hq with hq | hq
        · exact hne (S.sim.inj i j p q' _ hp e2 ho hq hs e5)
        · have := (z' n rfl).2 hq; omega
      have keep : ∀ {m : Nat} {d : Cell}, (q'.own = true ∨ q'.bor = true) → u = .ref m → st[m]? = some d → (st.set n c)[m]? = some d := fun {m d} hq eu e => by
        rw [List.getElem?_set_ne (fun h => key hq (by rw [eu, h]))]; exact e
      cases q' with
      | v t => exact r'
      | l xs => obtain ⟨m, eu, g, k⟩ := r'; exact ⟨m, eu, keep (.inl rfl) eu g, k⟩
      | bl xs => obtain ⟨m, eu, g, k⟩ := r'; exact ⟨m, eu, keep (.inr rfl) eu g, k⟩
      | d xs => obtain ⟨m, eu, g, k⟩ := r'; exact ⟨m, eu, keep (.inl rfl) eu g, k⟩
      | bd xs => obtain ⟨m, eu, g, k⟩ := r'; exact ⟨m, eu, keep (.inr rfl) eu g, k⟩
  · have o1 : ∃ q, ps[j]? = some (some q) ∧ q.own = true := by
      rcases set_some e with ⟨rfl, e2, hl⟩ | ⟨hne, e2⟩
      · exact ⟨p, hp, ho⟩
      · exact ⟨q1, e2, o⟩
    have o2 : ∃ q, ps[j']? = some (some q) ∧ q.own = true := by
      rcases set_some e' with ⟨rfl, e2, hl⟩ | ⟨hne, e2⟩
      · exact ⟨p, hp, ho⟩
      · exact ⟨q2, e2, o'⟩
    obtain ⟨a, a1, a2⟩ := o1
    obtain ⟨b, b1, b2⟩ := o2
    exact S.sim.inj j j' a b u a1 b1 a2 b2 f f'
/-- a value in the place of a thing of one's own, whose cell is dead -/
theorem SimS.kill (S : SimS st0 st sl ps) {i n : Nat} {p : PC} {t : T} (hp : ps[i]? = some (some p)) (ho : p.own = true) (hs : sl[i]? = some (some (.ref n))) (ht : Pur t) : SimS st0 (st.set n .dead) (sl.set i (some t)) (ps.set i (some (.v t))) := by
  obtain ⟨w, e3, r, z⟩ := S.sim.at_ i p hp
  rw [hs] at e3; cases e3
  obtain ⟨n', c', e4, g⟩ := r.own_cell (.inl ho)
  cases e4
  have hk := (z n rfl).1 ho
  have hnl := lt_of_get g
  refine ⟨⟨by rw [List.length_set, List.length_set]; exact S.sim.len, fun j q' e => ?_, fun j j' q1 q2 u e e' o o' f f' => ?_⟩, S.cls.set rfl, by rw [List.take_set_of_le hk]; exact S.pre, by rw [List.length_set]; exact S.le⟩
  · rcases set_some e with ⟨rfl, e2, hl⟩ | ⟨hne, e2⟩
    · cases e2
      exact ⟨t, List.getElem?_set_self (by rw [← S.sim.len]; exact hl), ⟨rfl, ht⟩, fun m e => by subst e; exact ht.noref.elim⟩
    · obtain ⟨u, e5, r', z'⟩ := S.sim.at_ j q' e2
      refine ⟨u, by rw [List.getElem?_set_ne hne]; exact e5, ?_, z'⟩
      have key : q'.own = true ∨ q'.bor = true → u ≠ .ref n := fun hq eu => by
        subst eu
        rcases hq with hq | hq
        · exact hne (S.sim.inj i j p q' _ hp e2 ho hq hs e5)
        · have := (z' n rfl).2 hq; omega
      have keep : ∀ {m : Nat} {d : Cell}, (q'.own = true ∨ q'.bor = true) → u = .ref m → st[m]? = some d → (st.set n .dead)[m]? = some d := fun {m d} hq eu e => by
        rw [List.getElem?_set_ne (fun h => key hq (by rw [eu, h]))]; exact e
      cases q' with
      | v t => exact r'
      | l xs => obtain ⟨m, eu, g, k⟩ := r'; exact ⟨m, eu, keep (.inl rfl) eu g, k⟩
      | bl xs => obtain ⟨m, eu, g, k⟩ := r'; exact ⟨m, eu, keep (.inr rfl) eu g, k⟩
      | d xs => obtain ⟨m, eu, g, k⟩ := r'; exact ⟨m, eu, keep (.inl rfl) eu g, k⟩
      | bd xs => obtain ⟨m, eu, g, k⟩ := r'; exact ⟨m, eu, keep (.inr rfl) eu g, k⟩
  · rcases set_some e with ⟨rfl, e2, hl⟩ | ⟨hne, e2⟩
    · cases e2; cases o
    · rcases set_some e' with ⟨rfl, e3, hl⟩ | ⟨hne', e3⟩
      · cases e3; cases o'
      · rw [List.getElem?_set_ne hne] at f
        rw [List.getElem?_set_ne hne'] at f'
        exact S.sim.inj j j' q1 q2 u e2 e3 o o' f f'
theorem SimS.setV (S : SimS st0 st sl ps) (i : Nat) {t : T} (h : Pur t) : SimS st0 st (sl.set i (some t)) (ps.set i (some (.v t))) := ⟨S.sim.setV i h, S.cls, S.pre, S.le⟩
/-- the slot of a thing of one's own -/
theorem SimS.own (S : SimS st0 st sl ps) {i : Nat} {p : PC} (hp : ps[i]? = some (some p)) (ho : p.own = true) : ∃ n c, sl[i]? = some (some (.ref n)) ∧ st[n]? = some c ∧ RelA st (.ref n) p := by
  obtain ⟨w, e3, r, z⟩ := S.sim.at_ i p hp
  obtain ⟨n, c, rfl, g⟩ := r.own_cell (.inl ho)
  exact ⟨n, c, e3, g, r⟩
end

section
variable {cl : Call} {pcl : PCall} {G : Tab} {st0 : Store}
/-- new things -/
def RelN (st : Store) (r : R T) : PR PC → Prop
  | .ok p => ∃ c, p.cell = some c ∧ r = .ok (.ref st.length) (st ++ [c])
  | .exc x => r = .exc x st ∧ PurX x
  | .stuck => True
theorem newL_of {st : Store} {r r' : R T} {p : PR PC} (h : RelR st (RelA st) r p) (e : r' = r.bind fun t st => match t with | .rol xs => alloc st (.lst xs) | _ => .stuck) :
    RelN st r' (p.bind fun p => match p with | .v (.rol xs) => .ok (.l xs) | _ => .stuck) := by
  subst e
  cases p with
  | exc x => obtain ⟨rfl, q⟩ := h; exact ⟨rfl, q⟩
  | stuck => exact True.intro
  | ok p =>
    obtain ⟨t, rfl, q⟩ := h
    cases p with
    | v u =>
      obtain ⟨rfl, q⟩ := q
      cases t <;> first | exact True.intro | skip
      rename_i xs
      exact ⟨.lst xs, by simp only [PC.cell]; rw [if_pos (pur_rol.mp q)], rfl⟩
    | _ => exact True.intro
theorem newD_of {st : Store} {r r' : R T} {p : PR PC} (h : RelR st (RelA st) r p) (e : r' = r.bind fun t st => match t with | .rod xs => alloc st (.dic xs) | _ => .stuck) :
    RelN st r' (p.bind fun p => match p with | .v (.rod xs) => .ok (.d xs) | _ => .stuck) := by
  subst e
  cases p with
  | exc x => obtain ⟨rfl, q⟩ := h; exact ⟨rfl, q⟩
  | stuck => exact True.intro
  | ok p =>
    obtain ⟨t, rfl, q⟩ := h
    cases p with
    | v u =>
      obtain ⟨rfl, q⟩ := q
      cases t <;> first | exact True.intro | skip
      rename_i xs
      exact ⟨.dic xs, by simp only [PC.cell]; rw [if_pos (pur_rod.mp q)], rfl⟩
    | _ => exact True.intro
theorem simNew (hcl : ClOk cl pcl) {st : Store} (hst : Cls st) {k : Nat} : ∀ (e : E) {sl : Sl} {ps : PSl}, Sim k st sl ps → RelN st (evE cl G e sl st) (pNew pcl G e ps) := by
  intro e sl ps S
  unfold pNew
  split
  · rename_i es
    have h := simEs (G := G) hcl hst es S
    unfold evE
    cases e : pEs pcl G es ps with
    | exc x => rw [e] at h; obtain ⟨h, q⟩ := h; rw [h]; exact ⟨rfl, q⟩
    | stuck => exact True.intro
    | ok ts =>
      rw [e] at h
      obtain ⟨a, h1, rfl, q⟩ := h
      rw [h1, R.bind_ok, PR.bind_ok]
      split
      · exact ⟨.lst a, by simp only [PC.cell]; rw [if_pos q], rfl⟩
      · exact True.intro
  · rename_i kvs
    have h := simKV (G := G) hcl hst kvs S
    unfold evE
    cases e : pKV pcl G kvs ps with
    | exc x => rw [e] at h; obtain ⟨h, q⟩ := h; rw [h]; exact ⟨rfl, q⟩
    | stuck => exact True.intro
    | ok ts =>
      rw [e] at h
      obtain ⟨a, h1, rfl, q⟩ := h
      rw [h1, R.bind_ok, PR.bind_ok]
      split
      · exact ⟨.dic _, by simp only [PC.cell]; rw [if_pos (pur_fold q rfl)], rfl⟩
      · exact True.intro
  · rename_i e n
    refine newL_of (simE hcl hst (.rep false e n) S) ?_
    unfold evE
    cases evE cl G e sl st with
    | exc x s => rfl
    | stuck => rfl
    | ok t s =>
      rw [R.bind_ok, R.bind_ok]
      cases evE cl G n sl s with
      | exc x s => rfl
      | stuck => rfl
      | ok u s =>
        rw [R.bind_ok, R.bind_ok]
        cases u <;> first | rfl | skip
        dsimp only
        split <;> rfl
  · rename_i es
    refine newL_of (simE hcl hst (.bcall .list es) S) ?_
    unfold evE
    cases evEs cl G es sl st with
    | exc x s => rfl
    | stuck => rfl
    | ok ts s =>
      rw [R.bind_ok, R.bind_ok]
      match ts with
      | [] => rfl
      | [a] =>
        simp only [bfn]
        cases seqOf s a <;> rfl
      | a :: b :: r => cases a <;> rfl
  · rename_i tg it c e own
    refine newL_of (simE hcl hst (.comp false tg it c e own) S) ?_
    unfold evE
    cases evIt cl G it sl st with
    | exc x s => rfl
    | stuck => rfl
    | ok J s =>
      rw [R.bind_ok, R.bind_ok]
      cases J.len s with
      | none => rfl
      | some k =>
        dsimp only
        generalize compL J _ k 0 [] s = r
        cases r <;> rfl
  · rename_i tg it c tg1 it1 c1 e own own1
    refine newL_of (simE hcl hst (.comp2 false tg it c tg1 it1 c1 e own own1) S) ?_
    unfold evE
    cases evIt cl G it sl st with
    | exc x s => rfl
    | stuck => rfl
    | ok J s =>
      rw [R.bind_ok, R.bind_ok]
      cases J.len s with
      | none => rfl
      | some k =>
        dsimp only
        generalize compN J _ k 0 [] s = r
        cases r <;> rfl
  · rename_i tg it c kx vx own
    refine newD_of (simE hcl hst (.dcomp false tg it c kx vx own) S) ?_
    unfold evE
    cases evIt cl G it sl st with
    | exc x s => rfl
    | stuck => rfl
    | ok J s =>
      rw [R.bind_ok, R.bind_ok]
      cases J.len s with
      | none => rfl
      | some k =>
        dsimp only
        generalize compD J _ k 0 [] s = r
        cases r <;> rfl
  · exact True.intro
theorem pforL_ok {J : Itv} {p : PIt} (hl : ∀ {st sl ps}, SimS st0 st sl ps → RelJ st J p) {body : T → Sl → Store → RS} {pb : T → PSl → PRS} (hb : ∀ x, Pur x → ∀ {st sl ps}, SimS st0 st sl ps → RelS st0 (body x sl st) (pb x ps)) :
    ∀ (n i : Nat) {st : Store} {sl : Sl} {ps : PSl}, i + n = p.len → SimS st0 st sl ps → RelS st0 (forL J body n i sl st) (pforL p pb n i ps)
  | 0, i, st, sl, ps, e, S => by
    unfold forL pforL
    rw [if_pos (by rw [(hl S).1, ← e]; rfl)]
    exact ⟨sl, st, rfl, S⟩
  | n + 1, i, st, sl, ps, e, S => by
    unfold forL pforL
    cases ex : p.get i with
    | none => exact True.intro
    | some x =>
      obtain ⟨g, kx⟩ := (hl S).2 i x ex
      rw [g]
      have h := hb x kx S
      dsimp only
      cases ep : pb x ps with
      | nx ps' => rw [ep] at h; obtain ⟨sl', st', h, S'⟩ := h; rw [h]; exact pforL_ok hl hb n (i + 1) (by omega) S'
      | ct ps' => rw [ep] at h; obtain ⟨sl', st', h, S'⟩ := h; rw [h]; exact pforL_ok hl hb n (i + 1) (by omega) S'
      | bk ps' => rw [ep] at h; obtain ⟨sl', st', h, S'⟩ := h; rw [h]; exact ⟨sl', st', rfl, S'⟩
      | rt t => rw [ep] at h; obtain ⟨st', h, q⟩ := h; rw [h]; exact ⟨st', rfl, q⟩
      | xc x ps' => rw [ep] at h; obtain ⟨sl', st', h, q⟩ := h; rw [h]; exact ⟨sl', st', rfl, q⟩
      | stuck => exact True.intro
theorem pwhileL_ok {c : Sl → Store → R Bool} {pc : PSl → PR Bool} (hc : ∀ {st sl ps}, SimS st0 st sl ps → RelR st (fun a b => a = b) (c sl st) (pc ps)) {body : Sl → Store → RS} {pb : PSl → PRS} (hb : ∀ {st sl ps}, SimS st0 st sl ps → RelS st0 (body sl st) (pb ps)) :
    ∀ (n : Nat) {st : Store} {sl : Sl} {ps : PSl}, SimS st0 st sl ps → RelS st0 (whileL c body n sl st) (pwhileL pc pb n ps)
  | 0, st, sl, ps, S => True.intro
  | n + 1, st, sl, ps, S => by
    unfold whileL pwhileL
    refine (hc S).thenS S fun a b e => ?_
    subst e
    cases a with
    | false => exact ⟨sl, st, rfl, S⟩
    | true =>
      rw [if_pos rfl, if_pos rfl]
      have h := hb S
      cases ep : pb ps with
      | nx ps' => rw [ep] at h; obtain ⟨sl', st', h, S'⟩ := h; rw [h]; exact pwhileL_ok hc hb n S'
      | ct ps' => rw [ep] at h; obtain ⟨sl', st', h, S'⟩ := h; rw [h]; exact pwhileL_ok hc hb n S'
      | bk ps' => rw [ep] at h; obtain ⟨sl', st', h, S'⟩ := h; rw [h]; exact ⟨sl', st', rfl, S'⟩
      | rt t => rw [ep] at h; obtain ⟨st', h, q⟩ := h; rw [h]; exact ⟨st', rfl, q⟩
      | xc x ps' => rw [ep] at h; obtain ⟨sl', st', h, q⟩ := h; rw [h]; exact ⟨sl', st', rfl, q⟩
      | stuck => exact True.intro
/-- what a for walks stays -/
theorem simItF (hcl : ClOk cl pcl) {st : Store} (hst : Cls st) {k : Nat} : ∀ (it : It) {sl : Sl} {ps : PSl}, Sim k st sl ps → RelR st (fun J p => ∀ st', RelJ st' J p) (evIt cl G it sl st) (pIt pcl G false it ps) := by
  have key : ∀ {t : T} {p : PC} {xs : List T}, RelA st t p → pseqO false p = some xs → ∀ st', RelA st' t p := fun {t p xs} h e st' => by
    cases p with
    | v u => exact h
    | _ => simp [pseqO, pseq] at e
  intro it sl ps S
  cases it with
  | val e =>
    unfold evIt pIt
    refine (simE hcl hst e S).bind fun t p q => ?_
    unfold pwalk
    cases e1 : pseqO false p with
    | none =>
      dsimp only
      split
      · rename_i kvs
        obtain ⟨rfl, k⟩ := q
        exact ⟨.keys kvs, rfl, fun st' => relJ_keys k⟩
      · exact True.intro
    | some xs =>
      have e2 := pseqO_seq e1
      exact ⟨.sq (unC t), by simp only [itVal, (q.seq e2).1]; rfl, fun st' => relJ_sq (key q e1 st') e2⟩
  | range es =>
    unfold evIt pIt
    refine (simEs hcl hst es S).bind fun a b q => ?_
    obtain ⟨rfl, q⟩ := q
    cases e : itRange a with
    | none => exact True.intro
    | some J =>
      cases e2 : PIt.ofI J with
      | none => rw [Option.bind_some, e2]; exact True.intro
      | some p => rw [Option.bind_some, e2]; exact ⟨J, rfl, fun st' => relJ_ofI e2⟩
  | enum e =>
    unfold evIt pIt
    refine (simE hcl hst e S).bind fun t p q => ?_
    cases e1 : pseqO false p with
    | none => exact True.intro
    | some xs =>
      have e2 := pseqO_seq e1
      exact ⟨.enum (unC t), by simp only [itEnum, (q.seq e2).1]; rfl, fun st' => relJ_enum (key q e1 st') e2⟩
  | zip a b =>
    unfold evIt pIt
    refine (simE hcl hst a S).bind fun t p q => (simE hcl hst b S).bind fun u p' q' => ?_
    cases e1 : pseqO false p with
    | none => exact True.intro
    | some xs =>
      cases e2 : pseqO false p' with
      | none => exact True.intro
      | some ys =>
        have f1 := pseqO_seq e1
        have f2 := pseqO_seq e2
        exact ⟨.zip (unC t) (unC u), by simp only [itZip, (q.seq f1).1, (q'.seq f2).1]; rfl, fun st' => relJ_zip (key q e1 st') f1 (key q' e2 st') f2⟩
theorem RelS.noXc {r : RS} {p : PRS} (h : RelS st0 r p) : RelS st0 r.noXc p.noXc := by
  cases p with
  | nx ps => obtain ⟨a, b, rfl, q⟩ := h; exact ⟨a, b, rfl, q⟩
  | bk ps => obtain ⟨a, b, rfl, q⟩ := h; exact ⟨a, b, rfl, q⟩
  | ct ps => obtain ⟨a, b, rfl, q⟩ := h; exact ⟨a, b, rfl, q⟩
  | rt ps => obtain ⟨a, rfl, q⟩ := h; exact ⟨a, rfl, q⟩
  | xc x ps => exact True.intro
  | stuck => exact True.intro
theorem cell_put {p q : PC} {i v : T} (h : pPut p i v = some q) (hi : Pur i) (hv : Pur v) {st : Store} {n : Nat} (r : RelA st (.ref n) p) : ∃ c, q.cell = some c ∧ p.own = true ∧ setIx (.ref n) i v st = .ok () (st.set n c) := by
  cases p with
  | l xs =>
    obtain ⟨m, e, g, k⟩ := r
    cases e
    cases i <;> simp only [pPut, reduceCtorEq] at h
    obtain ⟨j, ej, rfl⟩ := Option.map_eq_some_iff.mp h
    exact ⟨.lst (xs.set j v), by simp only [PC.cell]; rw [if_pos (purs_set k hv)], rfl, by simp only [setIx, g, ej]⟩
  | d kvs =>
    obtain ⟨m, e, g, k⟩ := r
    cases e
    simp only [pPut] at h
    split at h
    · rename_i c
      cases h
      exact ⟨.dic (dPut i v kvs), by simp only [PC.cell]; rw [if_pos (pur_put k hi hv)], rfl, by simp only [setIx, g, if_pos c]⟩
    · cases h
  | _ => simp [pPut] at h
mutual
theorem simS (hcl : ClOk cl pcl) : ∀ (s : S) {st : Store} {sl : Sl} {ps : PSl}, SimS st0 st sl ps → RelS st0 (evS cl G s sl st) (pS pcl G s ps)
  | .asg tg e, st, sl, ps, S => by
    unfold evS pS
    cases tg with
    | nm i =>
      dsimp only
      split
      · have h := simNew (G := G) hcl S.cls e S.sim
        cases ep : pNew pcl G e ps with
        | stuck => exact True.intro
        | exc x => rw [ep] at h; obtain ⟨h, q⟩ := h; rw [h]; exact ⟨sl, st, rfl, q, S⟩
        | ok p => rw [ep] at h; obtain ⟨c, hc, h⟩ := h; rw [h]; exact ⟨_, _, rfl, S.push i hc⟩
      · refine (simE hcl S.cls e S.sim).valV.thenS S fun a b q => ?_
        obtain ⟨rfl, q⟩ := q
        exact ⟨_, _, rfl, S.setV i q⟩
    | tup ts =>
      dsimp only
      refine (simE hcl S.cls e S.sim).valV.thenS S fun a b q => ?_
      obtain ⟨rfl, q⟩ := q
      exact (simTg hcl S.cls (.tup ts) q S.sim).noExc.thenS S fun sl' ps' S' => ⟨_, _, rfl, S', S.cls, S.pre, S.le⟩
    | sub o j =>
      cases o <;> first | exact True.intro | skip
      rename_i i
      dsimp only
      cases epi : ps[i]? with
      | none => exact True.intro
      | some o => cases o with
        | none => exact True.intro
        | some p =>
          dsimp only
          refine (simE hcl S.cls e S.sim).valV.thenS S fun a b q => ?_
          obtain ⟨rfl, q⟩ := q
          have hj := (simE (G := G) hcl S.cls j S.sim).valV.noExc
          obtain ⟨u, eu, ru, _⟩ := S.sim.at_ i p epi
          have ev : evE cl G (.var i) sl st = .ok u st := by unfold evE; rw [eu]
          unfold evTg
          rw [ev, R.bind_ok]
          revert hj
          generalize ((pE pcl G j ps).bind fun x => x.val).noExc = pj
          intro hj
          cases pj with
          | stuck => exact True.intro
          | exc x =>
            obtain ⟨h, _⟩ := hj
            exfalso
            revert h
            generalize evE cl G j sl st = r
            cases r <;> (intro h; cases h)
          | ok y =>
            obtain ⟨w, h, rfl, kw⟩ := hj
            have hr : evE cl G j sl st = .ok w st := by
              revert h
              generalize evE cl G j sl st = r
              cases r <;> (intro h; first | exact h | cases h)
            rw [hr, R.bind_ok, PR.thenS_ok]
            cases e2 : pPut p w a with
            | none => exact True.intro
            | some p' =>
              have ho : p.own = true := by cases p <;> first | rfl | (simp [pPut] at e2)
              obtain ⟨n, c0, e3, g, r⟩ := S.own epi ho
              rw [eu] at e3; cases e3
              obtain ⟨c, hc, _, hs⟩ := cell_put e2 kw q r
              rw [hs]
              exact ⟨_, _, rfl, S.write epi ho eu hc⟩
    | fld _ _ => exact True.intro
  | .par i j a b, st, sl, ps, S => by
    unfold evS pS
    refine (simE hcl S.cls a S.sim).valV.thenS S fun a' b' q => (simE hcl S.cls b S.sim).valV.thenS S fun a'' b'' q' => ?_
    obtain ⟨rfl, q⟩ := q
    obtain ⟨rfl, q'⟩ := q'
    exact ⟨_, _, rfl, (S.setV i q).setV j q'⟩
  | .aug i op e, st, sl, ps, S => by
    unfold evS pS
    cases epi : ps[i]? with
    | none => exact True.intro
    | some o => cases o with
      | none => exact True.intro
      | some p =>
        cases p <;> first | exact True.intro | skip
        rename_i x
        obtain ⟨u, eu, ru, _⟩ := S.sim.at_ i _ epi
        obtain ⟨rfl, ku⟩ := ru
        rw [eu]
        dsimp only
        refine RelR.thenS (simE hcl S.cls e S.sim) S fun t q r => ?_
        cases u <;> first | exact True.intro | skip
        cases q with
        | v w =>
          obtain ⟨rfl, kt⟩ := r
          cases t <;> first | exact True.intro | skip
          refine RelR.thenS (pbin_ok (st := st) (t := .int _) (u := .int _) (p := .v (.int _)) (q := .v (.int _)) ⟨rfl, rfl⟩ ⟨rfl, rfl⟩).valV S fun z p' r' => ?_
          obtain ⟨rfl, kz⟩ := r'
          exact ⟨_, _, rfl, S.setV i kz⟩
        | _ => exact True.intro
  | .augF _ _ _ _, st, sl, ps, S => by unfold pS; exact True.intro
  | .fz i, st, sl, ps, S => by
    unfold evS pS
    cases e : ps[i]? with
    | none => exact True.intro
    | some o => cases o with
      | none => exact True.intro
      | some p =>
        cases p with
        | l xs =>
          obtain ⟨n, c, e1, g, r⟩ := S.own e rfl
          obtain ⟨m, em, gm, k⟩ := r
          cases em
          rw [e1]; dsimp only; rw [gm]
          exact ⟨_, _, rfl, S.kill e rfl e1 (pur_rol.mpr k)⟩
        | d xs =>
          obtain ⟨n, c, e1, g, r⟩ := S.own e rfl
          obtain ⟨m, em, gm, k⟩ := r
          cases em
          rw [e1]; dsimp only; rw [gm]
          exact ⟨_, _, rfl, S.kill e rfl e1 (pur_rod.mpr k)⟩
        | _ => exact True.intro
  | .expr e, st, sl, ps, S => by
    have base : RelS st0 ((evE cl G e sl st).thenS sl fun _ st => .nx sl st) ((pE pcl G e ps).thenS ps fun _ => .nx ps) := RelR.thenS (simE hcl S.cls e S.sim) S fun a b q => ⟨sl, st, rfl, S⟩
    unfold evS pS
    split
    · rename_i i x
      cases epi : ps[i]? with
      | none => exact True.intro
      | some o => cases o with
        | none => exact True.intro
        | some p =>
          cases p <;> first | exact True.intro | skip
          rename_i xs
          obtain ⟨n, c, e1, g, r⟩ := S.own epi rfl
          obtain ⟨m, em, gm, k⟩ := r
          cases em
          have hx := (simE (G := G) hcl S.cls x S.sim).valV
          have hm : mOk .append (.ref n) st = true := by simp only [mOk, lstOf, gm, Option.isSome_some]
          simp only [evE, e1, R.bind_ok, hm, if_true, evEs]
          cases ex : (pE pcl G x ps).bind fun x => x.val with
          | stuck => exact True.intro
          | exc y => rw [ex] at hx; obtain ⟨h, q⟩ := hx; rw [h]; exact ⟨sl, st, rfl, q, S⟩
          | ok w =>
            rw [ex] at hx
            obtain ⟨t, h, rfl, kt⟩ := hx
            rw [h]
            simp only [R.bind_ok, mfn, mAppend, gm]
            rw [PR.thenS_ok]
            split
            · exact ⟨_, _, rfl, S.write epi rfl e1 (by simp only [PC.cell]; rw [if_pos (purs_app k (purs_one kt))])⟩
            · exact True.intro
    · rename_i i x
      cases epi : ps[i]? with
      | none => exact True.intro
      | some o => cases o with
        | none => exact True.intro
        | some p =>
          cases p <;> first | exact True.intro | skip
          rename_i xs
          obtain ⟨n, c, e1, g, r⟩ := S.own epi rfl
          obtain ⟨m, em, gm, k⟩ := r
          cases em
          have hx := simE (G := G) hcl S.cls x S.sim
          have hm : mOk .extend (.ref n) st = true := by simp only [mOk, lstOf, gm, Option.isSome_some]
          simp only [evE, e1, R.bind_ok, hm, if_true, evEs]
          cases ex : pE pcl G x ps with
          | stuck => exact True.intro
          | exc y => rw [ex] at hx; obtain ⟨h, q⟩ := hx; rw [h]; exact ⟨sl, st, rfl, q, S⟩
          | ok w =>
            rw [ex] at hx
            obtain ⟨t, h, r⟩ := hx
            rw [h]
            rw [PR.thenS_ok]
            cases ew : plst w with
            | none => exact True.intro
            | some ys =>
              obtain ⟨gy, ky⟩ := r.lst ew
              simp only [R.bind_ok, mfn, mExtend, gm, gy]
              split
              · exact ⟨_, _, rfl, S.write epi rfl e1 (by simp only [PC.cell]; rw [if_pos (purs_app k ky)])⟩
              · exact True.intro
    · rename_i i x
      cases epi : ps[i]? with
      | none => exact True.intro
      | some o => cases o with
        | none => exact True.intro
        | some p =>
          cases p <;> first | exact True.intro | skip
          rename_i xs
          obtain ⟨n, c, e1, g, r⟩ := S.own epi rfl
          obtain ⟨m, em, gm, k⟩ := r
          cases em
          have hx := simE (G := G) hcl S.cls x S.sim
          have hm : mOk .update (.ref n) st = true := by simp only [mOk, mapOf, gm, Option.isSome_some]
          simp only [evE, e1, R.bind_ok, hm, if_true, evEs]
          cases ex : pE pcl G x ps with
          | stuck => exact True.intro
          | exc y => rw [ex] at hx; obtain ⟨h, q⟩ := hx; rw [h]; exact ⟨sl, st, rfl, q, S⟩
          | ok w =>
            rw [ex] at hx
            obtain ⟨t, h, r⟩ := hx
            rw [h]
            rw [PR.thenS_ok]
            split
            · rename_i more
              obtain ⟨rfl, km⟩ := r
              simp only [R.bind_ok, mfn, mUpdate, gm]
              split
              · exact ⟨_, _, rfl, S.write epi rfl e1 (by simp only [PC.cell]; rw [if_pos (pur_fold (pur_rod.mp km) k)])⟩
              · exact True.intro
            · exact True.intro
    · exact base
  | .ret e, st, sl, ps, S => by
    have base : RelS st0 ((evE cl G e sl st).thenS sl fun x st => .rt x st) (((pE pcl G e ps).bind fun x => x.val).thenS ps fun x => .rt x) := (simE hcl S.cls e S.sim).valV.thenS S fun a b q => by
      obtain ⟨rfl, q⟩ := q
      exact ⟨st, rfl, q, S.pre⟩
    unfold evS pS
    split
    · rename_i i
      cases epi : ps[i]? with
      | none => exact True.intro
      | some o => cases o with
        | none => exact True.intro
        | some p =>
          cases p with
          | l xs =>
            obtain ⟨n, c, e1, g, r⟩ := S.own epi rfl
            obtain ⟨m, em, gm, k⟩ := r
            cases em
            have S2 := S.kill epi rfl e1 (pur_rol.mpr k)
            simp only [evE, e1, R.bind_ok, gm, R.thenS_ok]
            exact ⟨_, rfl, pur_rol.mpr k, S2.pre⟩
          | d xs =>
            obtain ⟨n, c, e1, g, r⟩ := S.own epi rfl
            obtain ⟨m, em, gm, k⟩ := r
            cases em
            have S2 := S.kill epi rfl e1 (pur_rod.mpr k)
            simp only [evE, e1, R.bind_ok, gm, R.thenS_ok]
            exact ⟨_, rfl, pur_rod.mpr k, S2.pre⟩
          | _ => exact True.intro
    · exact base
  | .retN, st, sl, ps, S => by unfold evS pS; exact ⟨st, rfl, rfl, S.pre⟩
  | .pass, st, sl, ps, S => by unfold evS pS; exact ⟨sl, st, rfl, S⟩
  | .brk, st, sl, ps, S => by unfold evS pS; exact ⟨sl, st, rfl, S⟩
  | .cnt, st, sl, ps, S => by unfold evS pS; exact ⟨sl, st, rfl, S⟩
  | .ifS c a b, st, sl, ps, S => by
    unfold evS pS
    refine RelR.thenS ((simE hcl S.cls c S.sim).bind fun t p q => q.truR) S fun x y e => ?_
    subst e
    split
    · exact simSs hcl a S
    · exact simSs hcl b S
  | .whl c b, st, sl, ps, S => by
    unfold evS pS
    exact pwhileL_ok (fun S => (simE hcl S.cls c S.sim).bind fun t p q => q.truR) (fun S => simSs hcl b S) WF S
  | .for tg it b, st, sl, ps, S => by
    unfold evS pS
    refine RelR.thenS (simItF hcl S.cls it S.sim) S fun J p hJ => ?_
    rw [(hJ st).1]
    exact pforL_ok (fun _ => hJ _) (fun x kx st sl ps S => RelR.thenS ((simTg hcl S.cls tg kx S.sim).noExc) S fun sl' ps' S' => simSs hcl b ⟨S', S.cls, S.pre, S.le⟩) p.len 0 (Nat.zero_add _) S
  | .raise c es, st, sl, ps, S => by
    unfold evS pS
    cases es with
    | nil => exact ⟨sl, st, rfl, rfl, S⟩
    | cons _ _ => exact True.intro
  | .tryS b c as h, st, sl, ps, S => by
    unfold evS pS
    have hb := simSs hcl b S
    cases ep : pSs pcl G b ps with
    | nx ps' => rw [ep] at hb; obtain ⟨a1, b1, hb, q⟩ := hb; rw [hb]; exact ⟨a1, b1, rfl, q⟩
    | bk ps' => rw [ep] at hb; obtain ⟨a1, b1, hb, q⟩ := hb; rw [hb]; exact ⟨a1, b1, rfl, q⟩
    | ct ps' => rw [ep] at hb; obtain ⟨a1, b1, hb, q⟩ := hb; rw [hb]; exact ⟨a1, b1, rfl, q⟩
    | rt t => rw [ep] at hb; obtain ⟨a1, hb, q⟩ := hb; rw [hb]; exact ⟨a1, rfl, q⟩
    | xc x ps' =>
      rw [ep] at hb
      obtain ⟨a1, b1, hb, q, S'⟩ := hb
      rw [hb]
      dsimp only
      split
      · exact (simSs hcl h S').noXc
      · exact True.intro
    | stuck => exact True.intro
theorem simSs (hcl : ClOk cl pcl) : ∀ (ss : Ss) {st : Store} {sl : Sl} {ps : PSl}, SimS st0 st sl ps → RelS st0 (evSs cl G ss sl st) (pSs pcl G ss ps)
  | .nil, st, sl, ps, S => by unfold evSs pSs; exact ⟨sl, st, rfl, S⟩
  | .cons s ss, st, sl, ps, S => by
    unfold evSs pSs
    have h := simS hcl s S
    cases ep : pS pcl G s ps with
    | nx ps' => rw [ep] at h; obtain ⟨a1, b1, h, S'⟩ := h; rw [h]; exact simSs hcl ss S'
    | bk ps' => rw [ep] at h; obtain ⟨a1, b1, h, q⟩ := h; rw [h]; exact ⟨a1, b1, rfl, q⟩
    | ct ps' => rw [ep] at h; obtain ⟨a1, b1, h, q⟩ := h; rw [h]; exact ⟨a1, b1, rfl, q⟩
    | rt t => rw [ep] at h; obtain ⟨a1, h, q⟩ := h; rw [h]; exact ⟨a1, rfl, q⟩
    | xc x ps' => rw [ep] at h; obtain ⟨a1, b1, h, q⟩ := h; rw [h]; exact ⟨a1, b1, rfl, q⟩
    | stuck => exact True.intro
end
theorem gc_keep {st st' : Store} {t : T} (h : Cls st) (ht : Pur t) (hp : st'.take st.length = st) : gc st.length (.ok t st') = .ok t st := by
  have hl : st.length ≤ st'.length := by
    have := congrArg List.length hp
    rw [List.length_take] at this; omega
  have hv : t.lim st.length = true := T.lim_le (Nat.zero_le _) ht
  simp only [gc, hp, h.closed, hv, hl, decide_true, Bool.and_self, if_true]
theorem gc_keepX {st st' : Store} {x : Ex} (h : Cls st) (hx : PurX x) (hp : st'.take st.length = st) : gc st.length (.exc x st') = .exc x st := by
  have hl : st.length ≤ st'.length := by
    have := congrArg List.length hp
    rw [List.length_take] at this; omega
  have hv : x.fs.all (·.2.lim st.length) = true := by
    unfold PurX at hx
    rw [List.all_eq_true] at hx ⊢
    exact fun y hy => T.lim_le (Nat.zero_le _) (hx y hy)
  simp only [gc, hp, h.closed, hl, hv, decide_true, Bool.and_self, if_true]
theorem RelAs.get {st : Store} : ∀ {ts : List T} {ps : List PC} {i : Nat} {p : PC}, RelAs st ts ps → ps[i]? = some p → ∃ t, ts[i]? = some t ∧ RelA st t p
  | _, _, _, _, .nil, e => by simp at e
  | _, _, 0, _, .cons r _, e => by simp at e; subst e; exact ⟨_, rfl, r⟩
  | _, _, i + 1, _, .cons _ rs, e => by
    obtain ⟨v, h1, h2⟩ := RelAs.get (i := i) rs (by simpa using e)
    exact ⟨v, by simpa using h1, h2⟩
theorem start_get {pcs : List PC} {n i : Nat} {p : PC} (e : (pcs.map (fun p => some p.arg) ++ List.replicate n none)[i]? = some (some p)) : ∃ q, pcs[i]? = some q ∧ p = q.arg := by
  by_cases h : i < pcs.length
  · rw [List.getElem?_append_left (by simpa using h), List.getElem?_map] at e
    obtain ⟨q, e1, e2⟩ := Option.map_eq_some_iff.mp e
    cases e2
    exact ⟨q, e1, rfl⟩
  · rw [List.getElem?_append_right (by simpa using h), List.getElem?_replicate] at e
    split at e <;> cases e
/-- a pure call tells what the call does -/
theorem run_pure (fns : List Fn) (G : Tab) : ∀ n, ClOk (run fns G n) (prun fns G n)
  | 0, f, ts, pcs, st, _, _ => True.intro
  | n + 1, f, ts, pcs, st, hst, h => by
    have ih := run_pure fns G n
    unfold prun
    cases eF : fns[f]? with
    | none => exact True.intro
    | some F =>
      dsimp only
      split
      · unfold semP
        split
        · rename_i hh
          exact ⟨_, hh.choose_spec.2 ts st hst h, rfl, hh.choose_spec.1⟩
        · split
          · rename_i hh
            exact ⟨hh.choose_spec.2 ts st hst h, hh.choose_spec.1⟩
          · exact True.intro
      split
      · rename_i hg
        split
        · rename_i hl
          have hlen : ts.length = pcs.length := by
            clear ih hl
            induction h with
            | nil => rfl
            | cons _ _ ih => simp [ih]
          unfold run
          rw [eF]
          dsimp only
          rw [if_pos (by rw [hlen]; exact hl), if_pos hg]
          have S : SimS st st (ts.map some ++ List.replicate (F.slots - F.arity) none) (pcs.map (fun p => some p.arg) ++ List.replicate (F.slots - F.arity) none) := by
            refine ⟨⟨by simp [hlen], fun i p e => ?_, fun i j p q t e e' o o' _ _ => ?_⟩, hst, List.take_length, Nat.le_refl _⟩
            · obtain ⟨q, e1, rfl⟩ := start_get e
              obtain ⟨t, e2, r⟩ := h.get e1
              refine ⟨t, ?_, r.arg, fun n en => ⟨fun z => (by cases q <;> cases z), fun z => ?_⟩⟩
              · rw [List.getElem?_append_left (by rw [List.length_map]; exact (List.getElem?_eq_some_iff.mp e2).1), List.getElem?_map, e2]; rfl
              · obtain ⟨m, c, e3, g⟩ := r.arg.own_cell (.inr z)
                rw [en] at e3; cases e3
                exact lt_of_get g
            · obtain ⟨q, e1, rfl⟩ := start_get e
              cases q <;> cases o
          have hb := simSs (G := G) ih F.body S
          cases ep : pSs (prun fns G n) G F.body (pcs.map (fun p => some p.arg) ++ List.replicate (F.slots - F.arity) none) with
          | nx ps => rw [ep] at hb; obtain ⟨sl, st', hb, S'⟩ := hb; rw [hb]; exact ⟨.non, gc_keep hst rfl S'.pre, rfl, rfl⟩
          | rt t => rw [ep] at hb; obtain ⟨st', hb, kt, hp⟩ := hb; rw [hb]; exact ⟨t, gc_keep hst kt hp, rfl, kt⟩
          | xc x ps => rw [ep] at hb; obtain ⟨sl, st', hb, kx, S'⟩ := hb; rw [hb]; exact ⟨gc_keepX hst kx S'.pre, kx⟩
          | bk ps => exact True.intro
          | ct ps => exact True.intro
          | stuck => exact True.intro
        · exact True.intro
      · exact True.intro
end
end PF

end

section
set_option Elab.async false
set_option linter.all false
set_option maxRecDepth 10000
set_option autoImplicit false
/-! PfG1: the laws' tape. -/
namespace PF
open PySem
def k_cells : Str := ⟨#[99, 101, 108, 108, 115]⟩
def k_at : Str := ⟨#[97, 116]⟩
def k_left : Str := ⟨#[108, 101, 102, 116]⟩
def k_seed : Str := ⟨#[115, 101, 101, 100]⟩
def k_salt : Str := ⟨#[115, 97, 108, 116]⟩
def tapeK (xs : List Int) (a l s z : Int) : List (T × T) := [(.str k_cells, .rol (xs.map .int)), (.str k_at, .int a), (.str k_left, .int l), (.str k_seed, .int s), (.str k_salt, .int z)]
def tapeC (xs : List Int) (a l s z : Int) : Cell := .dic (tapeK xs a l s z)
def tapeOk (c : Cell) : Prop := ∃ xs a l s z, 0 ≤ a ∧ c = tapeC xs a l s z
def bTake : Ss := (.cons (.ifS (.and (.cmp .Eq (.ix (.var 0) (.cst (.str k_left))) (.cst (.int 0))) (.cmp .Lt (.ix (.var 0) (.cst (.str k_at))) (.bcall .len (.cons (.ix (.var 0) (.cst (.str k_cells))) .nil)))) (.cons (.asg (.sub (.var 0) (.cst (.str k_left))) (.ix (.ix (.var 0) (.cst (.str k_cells))) (.ix (.var 0) (.cst (.str k_at)))))
  (.cons (.asg (.sub (.var 0) (.cst (.str k_at))) (.bin .Add (.ix (.var 0) (.cst (.str k_at))) (.cst (.int 1))))
  .nil)) .nil)
  (.cons (.ifS (.cmp .Gt (.ix (.var 0) (.cst (.str k_left))) (.cst (.int 0))) (.cons (.asg (.nm 3) (.bin .Mod (.bcall .int (.cons (.ix (.var 0) (.cst (.str k_left))) .nil)) (.var 1)))
  (.cons (.asg (.sub (.var 0) (.cst (.str k_left))) (.bin .FloorDiv (.ix (.var 0) (.cst (.str k_left))) (.var 1)))
  (.cons (.ret (.var 3))
  .nil))) .nil)
  (.cons (.asg (.sub (.var 0) (.cst (.str k_salt))) (.bin .Add (.ix (.var 0) (.cst (.str k_salt))) (.cst (.int 1))))
  (.cons (.asg (.nm 2) (.bin .Mod (.bcall .int (.cons (.bin .Add (.bin .Mult (.ix (.var 0) (.cst (.str k_seed))) (.cst (.int 48271))) (.bin .Mult (.ix (.var 0) (.cst (.str k_salt))) (.cst (.int 69621)))) .nil)) (.cst (.int 2147483647))))
  (.cons (.asg (.nm 2) (.bin .Mod (.bcall .int (.cons (.bin .Add (.bin .Add (.bin .Mult (.var 2) (.var 2)) (.bin .Mult (.ix (.var 0) (.cst (.str k_salt))) (.cst (.int 40692)))) (.cst (.int 12345))) .nil)) (.cst (.int 2147483399))))
  (.cons (.ret (.bin .Mod (.bcall .int (.cons (.var 2) .nil)) (.var 1)))
  .nil))))))
section
variable {xs : List Int} {a l s z : Int} {w : T}
theorem dl_cells : dLook (.str k_cells) (tapeK xs a l s z) = some (.rol (xs.map .int)) := rfl
theorem dl_at : dLook (.str k_at) (tapeK xs a l s z) = some (.int a) := rfl
theorem dl_left : dLook (.str k_left) (tapeK xs a l s z) = some (.int l) := rfl
theorem dl_seed : dLook (.str k_seed) (tapeK xs a l s z) = some (.int s) := rfl
theorem dl_salt : dLook (.str k_salt) (tapeK xs a l s z) = some (.int z) := rfl
theorem dp_at {i : Int} : dPut (.str k_at) (.int i) (tapeK xs a l s z) = tapeK xs i l s z := rfl
theorem dp_left {i : Int} : dPut (.str k_left) (.int i) (tapeK xs a l s z) = tapeK xs a i s z := rfl
theorem dp_salt {i : Int} : dPut (.str k_salt) (.int i) (tapeK xs a l s z) = tapeK xs a l s i := rfl
theorem dn_five : ((tapeK xs a l s z).length < sizeLine) = True := eq_true (lt_size (by simp [tapeK]))
end
theorem Ss_nil {cl : Call} {G : Tab} {sl : Sl} {st : Store} : evSs cl G .nil sl st = .nx sl st := by simp only [evSs]
theorem Ss_cons {cl : Call} {G : Tab} {s : S} {ss : Ss} {sl : Sl} {st : Store} : evSs cl G (.cons s ss) sl st = (evS cl G s sl st).seq (evSs cl G ss) := by
  simp only [evSs]; cases evS cl G s sl st <;> rfl
theorem Q_nx {sl : Sl} {st : Store} {f : Sl → Store → RS} : (RS.nx sl st).seq f = f sl st := rfl
theorem Q_rt {t : T} {st : Store} {f : Sl → Store → RS} : (RS.rt t st).seq f = .rt t st := rfl
theorem Q_bk {sl : Sl} {st : Store} {f : Sl → Store → RS} : (RS.bk sl st).seq f = .bk sl st := rfl
theorem Q_ct {sl : Sl} {st : Store} {f : Sl → Store → RS} : (RS.ct sl st).seq f = .ct sl st := rfl
theorem Q_xc {x : Ex} {sl : Sl} {st : Store} {f : Sl → Store → RS} : (RS.xc x sl st).seq f = .xc x sl st := rfl
section
variable {st : Store} {i j : Int} {kvs : List (T × T)} {n : Nat} {xs : List T} {x y : T}
theorem s_add : binT .Add (.int i) (.int j) st = .ok (.int (i + j)) st := rfl
theorem s_mul : binT .Mult (.int i) (.int j) st = if mulOk i j then .ok (.int (i * j)) st else .stuck := rfl
theorem s_div : binT .FloorDiv (.int i) (.int j) st = if 0 < j ∧ inS P30 j = true then .ok (.int (i / j)) st else if j ≠ 0 ∧ j.natAbs.log2.blt 9000 = true then .ok (.int (i.fdiv j)) st else .stuck := rfl
theorem s_mod : binT .Mod (.int i) (.int j) st = if 0 < j then .ok (.int (i % j)) st else .stuck := rfl
theorem s_eq : cmpT .Eq x y st = eqT st x y := rfl
theorem s_lt : cmpT .Lt (.int i) (.int j) st = some (decide (i < j)) := rfl
theorem s_gt : cmpT .Gt (.int i) (.int j) st = some (decide (j < i)) := rfl
theorem s_ixD (h : st[n]? = some (.dic kvs)) : ixT (.ref n) x st = if isKey x then dLook x kvs else none := by simp only [ixT, seqOf, mapOf, h]
theorem s_ixR : ixT (.rol xs) (.int i) st = (ixN xs.length i).bind fun j => xs[j]? := rfl
theorem s_keyS {s : Str} : isKey (.str s) = true := rfl
theorem s_setD (h : st[n]? = some (.dic kvs)) : setIx (.ref n) x y st = if isKey x ∧ kvs.length < sizeLine then .ok () (st.set n (.dic (dPut x y kvs))) else .stuck := by simp only [setIx, h]
theorem s_lenR : bfn .len [.rol xs] st = .ok (.int xs.length) st := rfl
theorem s_int : bfn .int [.int i] st = .ok (.int i) st := rfl
theorem s_truRB {b : Bool} : truR st (.bl b) = .ok b st := rfl
theorem R.thenS_exc {α : Type} {sl : Sl} {x : Ex} {st : Store} {f : α → Store → RS} : (R.exc x st : R α).thenS sl f = .xc x sl st := rfl
theorem R.noExc_ok {α : Type} {a : α} {st : Store} : (R.ok a st).noExc = .ok a st := rfl
theorem s_toR {t : T} : (RS.rt t st).toR = .ok t st := rfl
theorem get_set {c d : Cell} (h : st[n]? = some c) : (st.set n d)[n]? = some d := by
  simp [List.getElem?_set, lt_of_get h]
theorem set_set' {c d : Cell} : (st.set n c).set n d = st.set n d := List.set_set ..
theorem eqT_int : eqT st (.int i) (.int j) = some (decide (i = j)) := by
  simp [eqT, resD, toD, PyData.depth, PyData.eqv]
  rfl
end
section
variable {cl : Call} {G : Tab} {n : Nat} {xs : List Int} {a l s z : Int} {st : Store} {many : Int}
theorem take1 (h : st[n]? = some (.dic (tapeK xs a l s z))) (hl : 0 < l) (h0 : 0 < many) (h1 : many < 1073741824) : evSs cl G bTake [some (.ref n), some (.int many), none, none] st = .rt (.int (l % many)) (st.set n (.dic (tapeK xs a (l / many) s z))) := by
  have hl0 : decide (l = 0) = false := by simp; omega
  have h1 := in30 (i := many) (by omega)
  have hl1 : decide (0 < l) = true := by simp [hl]
  unfold bTake
  simp only [Ss_cons, Ss_nil, Q_nx, Q_rt, Q_bk, Q_ct, Q_xc, evS, evE, evEs, evTg, R.bind_ok, R.thenS_ok, PF.R.ofOpt_some, R.noExc_ok, s_add, s_mul, s_div, s_mod, s_eq, s_lt, s_gt, s_ixR, s_keyS, s_lenR, s_int, s_truRB, List.getElem?_cons_zero, List.getElem?_cons_succ, List.set_cons_zero, List.set_cons_succ, Option.map_some, Option.bind_some, if_true, and_self, true_and, reduceIte, Bool.false_eq_true, decide_true, decide_false, eqT_int, dl_left, dl_at, dl_cells, dl_seed, dl_salt, dp_at, dp_left, dp_salt, dn_five, s_ixD h, s_setD h, hl0, hl1, h0, h1]
theorem take2 (h : st[n]? = some (.dic (tapeK xs a 0 s z))) (ha : 0 ≤ a) (x : Int) (hx : xs[a.toNat]? = some x) (h0 : 0 < many) (h1 : many < 1073741824) (hx0 : 0 < x) :
  evSs cl G bTake [some (.ref n), some (.int many), none, none] st = .rt (.int (x % many)) (st.set n (.dic (tapeK xs (a + 1) (x / many) s z))) := by
  have hl1 : decide (0 < x) = true := by simp [hx0]
  have h1 := in30 (i := many) (by omega)
  have hlt : a < (xs.map T.int).length := by
    have := (List.getElem?_eq_some_iff.mp hx).1
    simp; omega
  have hlt' : decide (a < (xs.map T.int).length) = true := by simpa using hlt
  have hix : ixN (xs.map T.int).length a = some a.toNat := by
    unfold ixN; rw [if_pos ha, if_pos hlt]
  have hxx : (xs.map T.int)[a.toNat]? = some (.int x) := by simp [hx]
  have g3 : ∀ d, (st.set n d)[n]? = some d := fun d => get_set h
  have e0 : decide ((0 : Int) = 0) = true := rfl
  unfold bTake
  simp only [Ss_cons, Ss_nil, Q_nx, Q_rt, Q_bk, Q_ct, Q_xc, evS, evE, evEs, evTg, R.bind_ok, R.thenS_ok, PF.R.ofOpt_some, R.noExc_ok, s_add, s_mul, s_div, s_mod, s_eq, s_lt, s_gt, s_ixR, s_keyS, s_lenR, s_int, s_truRB, List.getElem?_cons_zero, List.getElem?_cons_succ, List.set_cons_zero, List.set_cons_succ, Option.map_some, Option.bind_some, if_true, and_self, true_and, reduceIte, Bool.false_eq_true, decide_true, decide_false, eqT_int, dl_left, dl_at, dl_cells, dl_seed, dl_salt, dp_at, dp_left, dp_salt, dn_five, s_ixD h, s_setD h, s_ixD (g3 _), s_setD (g3 _), set_set', hix, hxx, hlt', e0, hl1, h0, h1]
theorem take3 (h : st[n]? = some (.dic (tapeK xs a 0 s z))) (ha : 0 ≤ a) (x : Int) (hx : xs[a.toNat]? = some x) (h0 : 0 < many) (hx0 : ¬ 0 < x) :
  ∃ k, evSs cl G bTake [some (.ref n), some (.int many), none, none] st = .rt (.int (k % many)) (st.set n (.dic (tapeK xs (a + 1) x s (z + 1)))) := by
  have hl1 : decide (0 < x) = false := by simpa using hx0
  have hlt : a < (xs.map T.int).length := by
    have := (List.getElem?_eq_some_iff.mp hx).1
    simp; omega
  have hlt' : decide (a < (xs.map T.int).length) = true := by simpa using hlt
  have hix : ixN (xs.map T.int).length a = some a.toNat := by
    unfold ixN; rw [if_pos ha, if_pos hlt]
  have hxx : (xs.map T.int)[a.toNat]? = some (.int x) := by simp [hx]
  have g3 : ∀ d, (st.set n d)[n]? = some d := fun d => get_set h
  have e0 : decide ((0 : Int) = 0) = true := rfl
  have m1 : mulOk s 48271 = true := mul64 (by omega)
  have m2 : mulOk (z + 1) 69621 = true := mul64 (by omega)
  have m4 : mulOk (z + 1) 40692 = true := mul64 (by omega)
  generalize hq : (s * 48271 + (z + 1) * 69621) % 2147483647 = q
  have m3 : mulOk q q = true := by
    apply mul64
    have := Int.emod_nonneg (s * 48271 + (z + 1) * 69621) (b := 2147483647) (by omega)
    have := Int.emod_lt_of_pos (s * 48271 + (z + 1) * 69621) (b := 2147483647) (by omega)
    omega
  have p1 : (0 : Int) < 2147483647 := by omega
  have p2 : (0 : Int) < 2147483399 := by omega
  refine ⟨(q * q + (z + 1) * 40692 + 12345) % 2147483399, ?_⟩
  unfold bTake
  simp only [Ss_cons, Ss_nil, Q_nx, Q_rt, Q_bk, Q_ct, Q_xc, evS, evE, evEs, evTg, R.bind_ok, R.thenS_ok, PF.R.ofOpt_some, R.noExc_ok, s_add, s_mul, s_div, s_mod, s_eq, s_lt, s_gt, s_ixR, s_keyS, s_lenR, s_int, s_truRB, List.getElem?_cons_zero, List.getElem?_cons_succ, List.set_cons_zero, List.set_cons_succ, Option.map_some, Option.bind_some, if_true, and_self, true_and, reduceIte, Bool.false_eq_true, decide_true, decide_false, eqT_int, dl_left, dl_at, dl_cells, dl_seed, dl_salt, dp_at, dp_left, dp_salt, dn_five, s_ixD h, s_setD h, s_ixD (g3 _), s_setD (g3 _), set_set', hix, hxx, hlt', e0, hl1, h0, m1, m2, m3, m4, p1, p2, hq]
theorem take4 (h : st[n]? = some (.dic (tapeK xs a l s z))) (ha : 0 ≤ a) (hx : l ≠ 0 ∨ xs.length ≤ a) (h0 : 0 < many) (hx0 : ¬ 0 < l) :
  ∃ k, evSs cl G bTake [some (.ref n), some (.int many), none, none] st = .rt (.int (k % many)) (st.set n (.dic (tapeK xs a l s (z + 1)))) := by
  have hl1 : decide (0 < l) = false := by simpa using hx0
  have g3 : ∀ d, (st.set n d)[n]? = some d := fun d => get_set h
  have m1 : mulOk s 48271 = true := mul64 (by omega)
  have m2 : mulOk (z + 1) 69621 = true := mul64 (by omega)
  have m4 : mulOk (z + 1) 40692 = true := mul64 (by omega)
  generalize hq : (s * 48271 + (z + 1) * 69621) % 2147483647 = q
  have m3 : mulOk q q = true := by
    apply mul64
    have := Int.emod_nonneg (s * 48271 + (z + 1) * 69621) (b := 2147483647) (by omega)
    have := Int.emod_lt_of_pos (s * 48271 + (z + 1) * 69621) (b := 2147483647) (by omega)
    omega
  have p1 : (0 : Int) < 2147483647 := by omega
  have p2 : (0 : Int) < 2147483399 := by omega
  refine ⟨(q * q + (z + 1) * 40692 + 12345) % 2147483399, ?_⟩
  by_cases hl : l = 0
  · have e0 : decide (l = 0) = true := by simpa using hl
    have e1 : decide (a < (xs.map T.int).length) = false := by
      simp; omega
    unfold bTake
    simp only [Ss_cons, Ss_nil, Q_nx, Q_rt, Q_bk, Q_ct, Q_xc, evS, evE, evEs, evTg, R.bind_ok, R.thenS_ok, PF.R.ofOpt_some, R.noExc_ok, s_add, s_mul, s_div, s_mod, s_eq, s_lt, s_gt, s_ixR, s_keyS, s_lenR, s_int, s_truRB, List.getElem?_cons_zero, List.getElem?_cons_succ, List.set_cons_zero, List.set_cons_succ, Option.map_some, Option.bind_some, if_true, and_self, true_and, reduceIte, Bool.false_eq_true, decide_true, decide_false, eqT_int, dl_left, dl_at, dl_cells, dl_seed, dl_salt, dp_at, dp_left, dp_salt, dn_five, s_ixD h, s_setD h, s_ixD (g3 _), s_setD (g3 _), set_set', e0, e1, hl1, h0, m1, m2, m3, m4, p1, p2, hq]
  · have e0 : decide (l = 0) = false := by simpa using hl
    unfold bTake
    simp only [Ss_cons, Ss_nil, Q_nx, Q_rt, Q_bk, Q_ct, Q_xc, evS, evE, evEs, evTg, R.bind_ok, R.thenS_ok, PF.R.ofOpt_some, R.noExc_ok, s_add, s_mul, s_div, s_mod, s_eq, s_lt, s_gt, s_ixR, s_keyS, s_lenR, s_int, s_truRB, List.getElem?_cons_zero, List.getElem?_cons_succ, List.set_cons_zero, List.set_cons_succ, Option.map_some, Option.bind_some, if_true, and_self, true_and, reduceIte, Bool.false_eq_true, decide_true, decide_false, eqT_int, dl_left, dl_at, dl_cells, dl_seed, dl_salt, dp_at, dp_left, dp_salt, dn_five, s_ixD h, s_setD h, s_ixD (g3 _), s_setD (g3 _), set_set', e0, hl1, h0, m1, m2, m3, m4, p1, p2, hq]
/-- a drawn number -/
theorem take_b {c : Cell} (hc : tapeOk c) (hg : st[n]? = some c) (h0 : 0 < many) (h1 : many < 1073741824) :
    ∃ k c', tapeOk c' ∧ 0 ≤ k ∧ k < many ∧ evSs cl G bTake [some (.ref n), some (.int many), none, none] st = .rt (.int k) (st.set n c') := by
  obtain ⟨xs, a, l, s, z, ha, rfl⟩ := hc
  have q : ∀ k : Int, 0 ≤ k % many ∧ k % many < many := fun k => ⟨Int.emod_nonneg _ (by omega), Int.emod_lt_of_pos _ h0⟩
  by_cases hl : 0 < l
  · exact ⟨_, _, ⟨_, _, _, _, _, ha, rfl⟩, (q _).1, (q _).2, take1 hg hl h0 h1⟩
  by_cases hl0 : l ≠ 0 ∨ (xs.length : Int) ≤ a
  · obtain ⟨k, hk⟩ := take4 (cl := cl) (G := G) hg ha hl0 h0 hl
    exact ⟨_, _, ⟨_, _, _, _, _, ha, rfl⟩, (q _).1, (q _).2, hk⟩
  · simp only [not_or, ne_eq, Decidable.not_not] at hl0
    obtain ⟨rfl, h3⟩ := hl0
    have hx : xs[a.toNat]? = some (xs[a.toNat]'(by omega)) := List.getElem?_eq_getElem (by omega)
    generalize xs[a.toNat]'(by omega) = x at hx
    by_cases hx0 : 0 < x
    · exact ⟨_, _, ⟨_, _, _, _, _, by omega, rfl⟩, (q _).1, (q _).2, take2 hg ha x hx h0 h1 hx0⟩
    · obtain ⟨k, hk⟩ := take3 (cl := cl) (G := G) hg ha x hx h0 hx0
      exact ⟨_, _, ⟨_, _, _, _, _, by omega, rfl⟩, (q _).1, (q _).2, hk⟩
end
/-! ### calls -/
structure IsFn (F : Fn) (a s : Nat) (b : Ss) : Prop where
  arity : F.arity = a
  slots : F.slots = s
  gc : F.gc = true
  body : F.body = b
theorem run_gc {fns : List Fn} {G : Tab} {N f a s : Nat} {F : Fn} {b : Ss} {ts : List T} {st : Store} (h : fns[f]? = some F) (hF : IsFn F a s b) (ha : ts.length = a) :
    run fns G (N + 1) f ts st = gc st.length (evSs (run fns G N) G b (ts.map some ++ List.replicate (s - a) none) st).toR := by
  conv => lhs; unfold run
  rw [h]; simp only; rw [if_pos (by rw [ha, hF.arity]), hF.gc, hF.arity, hF.slots, hF.body, if_pos rfl]
theorem lims_map_int : ∀ (xs : List Int) (n : Nat), T.lims n (xs.map .int) = true
  | [], _ => by simp [T.lims]
  | x :: xs, n => by simp [T.lims, T.lim, lims_map_int xs n]
theorem tapeOk.lim {c : Cell} (h : tapeOk c) (n : Nat) : c.lim n = true := by
  obtain ⟨xs, a, l, s, z, _, rfl⟩ := h
  simp [tapeC, tapeK, Cell.lim, T.limK, T.lim, lims_map_int]
theorem gc_tape {st : Store} {n : Nat} {c : Cell} {t : T} (hst : Cls st) (hc : tapeOk c) (ht : Pur t) : gc st.length (.ok t (st.set n c)) = .ok t (st.set n c) := by
  have h := gc_keep (st := st.set n c) (st' := st.set n c) (hst.set (hc.lim _)) ht List.take_length
  rw [List.length_set] at h
  exact h
/-- what is known of a law's own drawing defs -/
abbrev Drs := Nat → List T → (T → Prop) → Prop
def DrOk (cl : Call) (D : Drs) : Prop := ∀ f ts Q, Purs ts → D f ts Q → ∀ n st c, Cls st → tapeOk c → st[n]? = some c → ∃ t c', tapeOk c' ∧ cl f (.ref n :: ts) st = .ok t (st.set n c') ∧ Pur t ∧ Q t
/-- the first def of all: a number below many -/
def dTake (k : Nat) : Drs := fun f ts Q => f = k ∧ ∃ many, ts = [.int many] ∧ 0 < many ∧ many < 1073741824 ∧ ∀ i, 0 ≤ i → i < many → Q (.int i)
theorem drTake {fns : List Fn} {G : Tab} {N f : Nat} {F : Fn} (h : fns[f]? = some F) (hF : IsFn F 2 4 bTake) : DrOk (run fns G (N + 1)) (dTake f) := by
  rintro _ ts Q hp ⟨rfl, many, rfl, h0, h1, hQ⟩ n st c hst hc hg
  obtain ⟨k, c', hc', hk, hk', hr⟩ := take_b (cl := run fns G N) (G := G) hc hg h0 h1
  refine ⟨.int k, c', hc', ?_, rfl, hQ k hk hk'⟩
  rw [run_gc h hF rfl]
  have e : ([T.ref n, T.int many].map some ++ List.replicate (4 - 2) none : Sl) = [some (.ref n), some (.int many), none, none] := rfl
  rw [e, hr, s_toR, gc_tape hst hc' rfl]
theorem DrOk.or {cl : Call} {D D' : Drs} (h : DrOk cl D) (h' : DrOk cl D') : DrOk cl (fun f ts Q => D f ts Q ∨ D' f ts Q) := fun f ts Q hp d n st c hst hc hg => d.elim (fun d => h f ts Q hp d n st c hst hc hg) (fun d => h' f ts Q hp d n st c hst hc hg)
def bTape : Ss := (.cons (.asg (.nm 1) (.comp false (.nm 3) (.val (.var 0)) .none (.bcall .abs (.cons (.bcall .int (.cons (.var 3) .nil)) .nil)) [3]))
  (.cons (.asg (.nm 2) (.cst (.int 7)))
  (.cons (.for (.nm 3) (.val (.var 1)) (.cons (.asg (.nm 2) (.bin .Mod (.bcall .int (.cons (.bin .Add (.bin .Mult (.var 2) (.cst (.int 31))) (.var 3)) .nil)) (.cst (.int 2147483647))))
  .nil))
  (.cons (.ret (.dct true (.cons (.cst (.str k_cells)) (.var 1) (.cons (.cst (.str k_at)) (.cst (.int 0)) (.cons (.cst (.str k_left)) (.cst (.int 0)) (.cons (.cst (.str k_seed)) (.var 2) (.cons (.cst (.str k_salt)) (.cst (.int 0)) .nil)))))))
  .nil))))
theorem lims_map_int0 (xs : List Int) : Purs (xs.map .int) := lims_map_int xs 0
theorem tape_spec {fns : List Fn} {G : Tab} {N f : Nat} {F : Fn} (h : fns[f]? = some F) (hF : IsFn F 1 4 bTape) (ns : List Int) (hn : ns.length ≤ 63) :
    ∃ c, tapeOk c ∧ run fns G (N + 1) f [.rol (ns.map .int)] [] = .ok (.ref 0) [c] := by
  have hz : ns.length ≤ sizeLine := lt_size2 (by omega)
  let ab : Int → Int := fun i => if i < 0 then -i else i
  have hcl := run_pure fns G N
  have S0 : SimS ([] : Store) [] [some (.rol (ns.map .int)), none, none, none] [some (.v (.rol (ns.map .int))), none, none, none] := by
    refine ⟨⟨rfl, ?_, ?_⟩, fun c hc => by simp at hc, rfl, Nat.le_refl _⟩
    · intro i p e
      match i, e with
      | 0, e => cases e; exact ⟨_, rfl, ⟨rfl, pur_rol.mpr (lims_map_int0 _)⟩, fun n e => by cases e⟩
      | 1, e => cases e
      | 2, e => cases e
      | 3, e => cases e
      | n + 4, e => cases e
    · intro i j p q t e e' o o' _ _
      match i, e with
      | 0, e => cases e; cases o
      | 1, e => cases e
      | 2, e => cases e
      | 3, e => cases e
      | n + 4, e => cases e
  have p1 : pS (prun fns G N) G (.asg (.nm 1) (.comp false (.nm 3) (.val (.var 0)) .none (.bcall .abs (.cons (.bcall .int (.cons (.var 3) .nil)) .nil)) [3])) [some (.v (.rol (ns.map .int))), none, none, none]
      = .nx [some (.v (.rol (ns.map .int))), some (.v (.rol ((ns.map ab).map .int))), none, none] := by
    simp only [pE.eq_1, pE.eq_2, pE.eq_3, pE.eq_4, pE.eq_5, pE.eq_6, pE.eq_7, pE.eq_8, pE.eq_9, pE.eq_10, pE.eq_11, pE.eq_12, pE.eq_13, pE.eq_14, pE.eq_15, pE.eq_16, pE.eq_17, pE.eq_18, pE.eq_19, pE.eq_20, pE.eq_21, pE.eq_22, pE.eq_23, pE.eq_24, pE.eq_25, pS.eq_1, pS.eq_2, pS.eq_3, pS.eq_4, pS.eq_5, pS.eq_6, pS.eq_7, pS.eq_8, pS.eq_9, pS.eq_10, pS.eq_11, pS.eq_12, pS.eq_13, pS.eq_14, pS.eq_15, pS.eq_16, pS.eq_17, pS.eq_18, pS.eq_19, pS.eq_22, pS.eq_24, pNew.eq_1, pNew.eq_2, pNew.eq_3, pNew.eq_4, pNew.eq_5, pNew.eq_6, pNew.eq_7, pE_comp, pE_comp2, pE_dcomp, pS_for, isNew, pSs_cons, pSs_nil, q_nx, q_rt, q_bk, q_ct, q_xc, pEs, pAs, pKV, pEo, pC, pIt, pwalk, pTg, pTgs, cB, cBD, pwipe, PR.bind_ok, PR.bind_exc, PR.ofOpt_some, PR.noExc_ok, PR.thenS_ok, PR.thenS_exc, PC.val_v, PRS.noXc, r_nx, r_rt, r_xc, a_v, a_l, a_bl, T.lim, o_add, o_sub, o_mul, o_div, o_mod, o_addT, o_addLL, o_eq, o_ne, o_lt, o_le, o_gt, o_ge, o_isN, o_isnN, o_isB, o_isnB, o_isT, o_isnT, o_isI, o_isnI, o_isL, o_isnL, eqv_int, o_ixT, o_ixR, o_ixl, o_ixbl, o_slcT, o_slcR, o_slcl, o_revT, o_revR, o_lenT, o_lenR, o_lenl, o_lenbl, o_lenD, o_lend, o_abs, o_int, o_intB, o_tupT, o_tupR, o_tupl, o_lstT, o_lstR, o_min2, o_max2, o_srt, o_repr, t_b, t_i, t_t, t_r, t_l, t_n, y_t, y_r, y_l, y_bl, z_t, z_r, l_r, l_l, it_sq, it_rng, it_rngC, it_zip, PIt.items_enum, List.getElem?_cons_zero, List.getElem?_cons_succ, List.set_cons_zero, List.set_cons_succ, Option.map_some, Option.bind_some, if_true, and_self, true_and, and_true, reduceIte, Bool.not_true, Bool.not_false, Bool.false_eq_true, Tgs.len, List.length_cons, List.length_nil, Nat.zero_add, Nat.reduceAdd, decide_true, decide_false]
    rw [compI_map (g := fun i => .int (ab i)) ns (fun y _ => by simp only [pE.eq_1, pE.eq_2, pE.eq_3, pE.eq_4, pE.eq_5, pE.eq_6, pE.eq_7, pE.eq_8, pE.eq_9, pE.eq_10, pE.eq_11, pE.eq_12, pE.eq_13, pE.eq_14, pE.eq_15, pE.eq_16, pE.eq_17, pE.eq_18, pE.eq_19, pE.eq_20, pE.eq_21, pE.eq_22, pE.eq_23, pE.eq_24, pE.eq_25, pS.eq_1, pS.eq_2, pS.eq_3, pS.eq_4, pS.eq_5, pS.eq_6, pS.eq_7, pS.eq_8, pS.eq_9, pS.eq_10, pS.eq_11, pS.eq_12, pS.eq_13, pS.eq_14, pS.eq_15, pS.eq_16, pS.eq_17, pS.eq_18, pS.eq_19, pS.eq_22, pS.eq_24, pNew.eq_1, pNew.eq_2, pNew.eq_3, pNew.eq_4, pNew.eq_5, pNew.eq_6, pNew.eq_7, pE_comp, pE_comp2, pE_dcomp, pS_for, isNew, pSs_cons, pSs_nil, q_nx, q_rt, q_bk, q_ct, q_xc, pEs, pAs, pKV, pEo, pC, pIt, pwalk, pTg, pTgs, cB, cBD, pwipe, PR.bind_ok, PR.bind_exc, PR.ofOpt_some, PR.noExc_ok, PR.thenS_ok, PR.thenS_exc, PC.val_v, PRS.noXc, r_nx, r_rt, r_xc, a_v, a_l, a_bl, T.lim, o_add, o_sub, o_mul, o_div, o_mod, o_addT, o_addLL, o_eq, o_ne, o_lt, o_le, o_gt, o_ge, o_isN, o_isnN, o_isB, o_isnB, o_isT, o_isnT, o_isI, o_isnI, o_isL, o_isnL, eqv_int, o_ixT, o_ixR, o_ixl, o_ixbl, o_slcT, o_slcR, o_slcl, o_revT, o_revR, o_lenT, o_lenR, o_lenl, o_lenbl, o_lenD, o_lend, o_abs, o_int, o_intB, o_tupT, o_tupR, o_tupl, o_lstT, o_lstR, o_min2, o_max2, o_srt, o_repr, t_b, t_i, t_t, t_r, t_l, t_n, y_t, y_r, y_l, y_bl, z_t, z_r, l_r, l_l, it_sq, it_rng, it_rngC, it_zip, PIt.items_enum, List.getElem?_cons_zero, List.getElem?_cons_succ, List.set_cons_zero, List.set_cons_succ, Option.map_some, Option.bind_some, if_true, and_self, true_and, and_true, reduceIte, Bool.not_true, Bool.not_false, Bool.false_eq_true, Tgs.len, List.length_cons, List.length_nil, Nat.zero_add, Nat.reduceAdd, decide_true, decide_false]; rfl) hz]
    simp only [pE.eq_1, pE.eq_2, pE.eq_3, pE.eq_4, pE.eq_5, pE.eq_6, pE.eq_7, pE.eq_8, pE.eq_9, pE.eq_10, pE.eq_11, pE.eq_12, pE.eq_13, pE.eq_14, pE.eq_15, pE.eq_16, pE.eq_17, pE.eq_18, pE.eq_19, pE.eq_20, pE.eq_21, pE.eq_22, pE.eq_23, pE.eq_24, pE.eq_25, pS.eq_1, pS.eq_2, pS.eq_3, pS.eq_4, pS.eq_5, pS.eq_6, pS.eq_7, pS.eq_8, pS.eq_9, pS.eq_10, pS.eq_11, pS.eq_12, pS.eq_13, pS.eq_14, pS.eq_15, pS.eq_16, pS.eq_17, pS.eq_18, pS.eq_19, pS.eq_22, pS.eq_24, pNew.eq_1, pNew.eq_2, pNew.eq_3, pNew.eq_4, pNew.eq_5, pNew.eq_6, pNew.eq_7, pE_comp, pE_comp2, pE_dcomp, pS_for, isNew, pSs_cons, pSs_nil, q_nx, q_rt, q_bk, q_ct, q_xc, pEs, pAs, pKV, pEo, pC, pIt, pwalk, pTg, pTgs, cB, cBD, pwipe, PR.bind_ok, PR.bind_exc, PR.ofOpt_some, PR.noExc_ok, PR.thenS_ok, PR.thenS_exc, PC.val_v, PRS.noXc, r_nx, r_rt, r_xc, a_v, a_l, a_bl, T.lim, o_add, o_sub, o_mul, o_div, o_mod, o_addT, o_addLL, o_eq, o_ne, o_lt, o_le, o_gt, o_ge, o_isN, o_isnN, o_isB, o_isnB, o_isT, o_isnT, o_isI, o_isnI, o_isL, o_isnL, eqv_int, o_ixT, o_ixR, o_ixl, o_ixbl, o_slcT, o_slcR, o_slcl, o_revT, o_revR, o_lenT, o_lenR, o_lenl, o_lenbl, o_lenD, o_lend, o_abs, o_int, o_intB, o_tupT, o_tupR, o_tupl, o_lstT, o_lstR, o_min2, o_max2, o_srt, o_repr, t_b, t_i, t_t, t_r, t_l, t_n, y_t, y_r, y_l, y_bl, z_t, z_r, l_r, l_l, it_sq, it_rng, it_rngC, it_zip, PIt.items_enum, List.getElem?_cons_zero, List.getElem?_cons_succ, List.set_cons_zero, List.set_cons_succ, Option.map_some, Option.bind_some, if_true, and_self, true_and, and_true, reduceIte, Bool.not_true, Bool.not_false, Bool.false_eq_true, Tgs.len, List.length_cons, List.length_nil, Nat.zero_add, Nat.reduceAdd, decide_true, decide_false, List.map_map, Function.comp_def]
  have p2 : ∀ a b c d, pS (prun fns G N) G (.asg (.nm 2) (.cst (.int 7))) [a, b, c, d] = .nx [a, b, some (.v (.int 7)), d] := fun _ _ _ _ => by
    simp only [pE.eq_1, pE.eq_2, pE.eq_3, pE.eq_4, pE.eq_5, pE.eq_6, pE.eq_7, pE.eq_8, pE.eq_9, pE.eq_10, pE.eq_11, pE.eq_12, pE.eq_13, pE.eq_14, pE.eq_15, pE.eq_16, pE.eq_17, pE.eq_18, pE.eq_19, pE.eq_20, pE.eq_21, pE.eq_22, pE.eq_23, pE.eq_24, pE.eq_25, pS.eq_1, pS.eq_2, pS.eq_3, pS.eq_4, pS.eq_5, pS.eq_6, pS.eq_7, pS.eq_8, pS.eq_9, pS.eq_10, pS.eq_11, pS.eq_12, pS.eq_13, pS.eq_14, pS.eq_15, pS.eq_16, pS.eq_17, pS.eq_18, pS.eq_19, pS.eq_22, pS.eq_24, pNew.eq_1, pNew.eq_2, pNew.eq_3, pNew.eq_4, pNew.eq_5, pNew.eq_6, pNew.eq_7, pE_comp, pE_comp2, pE_dcomp, pS_for, isNew, pSs_cons, pSs_nil, q_nx, q_rt, q_bk, q_ct, q_xc, pEs, pAs, pKV, pEo, pC, pIt, pwalk, pTg, pTgs, cB, cBD, pwipe, PR.bind_ok, PR.bind_exc, PR.ofOpt_some, PR.noExc_ok, PR.thenS_ok, PR.thenS_exc, PC.val_v, PRS.noXc, r_nx, r_rt, r_xc, a_v, a_l, a_bl, T.lim, o_add, o_sub, o_mul, o_div, o_mod, o_addT, o_addLL, o_eq, o_ne, o_lt, o_le, o_gt, o_ge, o_isN, o_isnN, o_isB, o_isnB, o_isT, o_isnT, o_isI, o_isnI, o_isL, o_isnL, eqv_int, o_ixT, o_ixR, o_ixl, o_ixbl, o_slcT, o_slcR, o_slcl, o_revT, o_revR, o_lenT, o_lenR, o_lenl, o_lenbl, o_lenD, o_lend, o_abs, o_int, o_intB, o_tupT, o_tupR, o_tupl, o_lstT, o_lstR, o_min2, o_max2, o_srt, o_repr, t_b, t_i, t_t, t_r, t_l, t_n, y_t, y_r, y_l, y_bl, z_t, z_r, l_r, l_l, it_sq, it_rng, it_rngC, it_zip, PIt.items_enum, List.getElem?_cons_zero, List.getElem?_cons_succ, List.set_cons_zero, List.set_cons_succ, Option.map_some, Option.bind_some, if_true, and_self, true_and, and_true, reduceIte, Bool.not_true, Bool.not_false, Bool.false_eq_true, Tgs.len, List.length_cons, List.length_nil, Nat.zero_add, Nat.reduceAdd, decide_true, decide_false]
  have p3 : ∃ s x, pS (prun fns G N) G (.for (.nm 3) (.val (.var 1)) (.cons (.asg (.nm 2) (.bin .Mod (.bcall .int (.cons (.bin .Add (.bin .Mult (.var 2) (.cst (.int 31))) (.var 3)) .nil)) (.cst (.int 2147483647)))) .nil)) [some (.v (.rol (ns.map .int))), some (.v (.rol ((ns.map ab).map .int))), some (.v (.int 7)), none]
      = .nx [some (.v (.rol (ns.map .int))), some (.v (.rol ((ns.map ab).map .int))), some (.v (.int s)), x] := by
    simp only [pE.eq_1, pE.eq_2, pE.eq_3, pE.eq_4, pE.eq_5, pE.eq_6, pE.eq_7, pE.eq_8, pE.eq_9, pE.eq_10, pE.eq_11, pE.eq_12, pE.eq_13, pE.eq_14, pE.eq_15, pE.eq_16, pE.eq_17, pE.eq_18, pE.eq_19, pE.eq_20, pE.eq_21, pE.eq_22, pE.eq_23, pE.eq_24, pE.eq_25, pS.eq_1, pS.eq_2, pS.eq_3, pS.eq_4, pS.eq_5, pS.eq_6, pS.eq_7, pS.eq_8, pS.eq_9, pS.eq_10, pS.eq_11, pS.eq_12, pS.eq_13, pS.eq_14, pS.eq_15, pS.eq_16, pS.eq_17, pS.eq_18, pS.eq_19, pS.eq_22, pS.eq_24, pNew.eq_1, pNew.eq_2, pNew.eq_3, pNew.eq_4, pNew.eq_5, pNew.eq_6, pNew.eq_7, pE_comp, pE_comp2, pE_dcomp, pS_for, isNew, pSs_cons, pSs_nil, q_nx, q_rt, q_bk, q_ct, q_xc, pEs, pAs, pKV, pEo, pC, pIt, pwalk, pTg, pTgs, cB, cBD, pwipe, PR.bind_ok, PR.bind_exc, PR.ofOpt_some, PR.noExc_ok, PR.thenS_ok, PR.thenS_exc, PC.val_v, PRS.noXc, r_nx, r_rt, r_xc, a_v, a_l, a_bl, T.lim, o_add, o_sub, o_mul, o_div, o_mod, o_addT, o_addLL, o_eq, o_ne, o_lt, o_le, o_gt, o_ge, o_isN, o_isnN, o_isB, o_isnB, o_isT, o_isnT, o_isI, o_isnI, o_isL, o_isnL, eqv_int, o_ixT, o_ixR, o_ixl, o_ixbl, o_slcT, o_slcR, o_slcl, o_revT, o_revR, o_lenT, o_lenR, o_lenl, o_lenbl, o_lenD, o_lend, o_abs, o_int, o_intB, o_tupT, o_tupR, o_tupl, o_lstT, o_lstR, o_min2, o_max2, o_srt, o_repr, t_b, t_i, t_t, t_r, t_l, t_n, y_t, y_r, y_l, y_bl, z_t, z_r, l_r, l_l, it_sq, it_rng, it_rngC, it_zip, PIt.items_enum, List.getElem?_cons_zero, List.getElem?_cons_succ, List.set_cons_zero, List.set_cons_succ, Option.map_some, Option.bind_some, if_true, and_self, true_and, and_true, reduceIte, Bool.not_true, Bool.not_false, Bool.false_eq_true, Tgs.len, List.length_cons, List.length_nil, Nat.zero_add, Nat.reduceAdd, decide_true, decide_false]
    refine forI_ind (P := fun r => ∃ s x, r = PRS.nx [some (.v (.rol (ns.map .int))), some (.v (.rol ((ns.map ab).map .int))), some (.v (.int s)), x]) (fun xs sl => (∃ l : List Int, xs = l.map .int) ∧ ∃ s x, sl = [some (.v (.rol (ns.map .int))), some (.v (.rol ((ns.map ab).map .int))), some (.v (.int s)), x]) ?_ ?_ _ _ ⟨⟨_, rfl⟩, _, _, rfl⟩
    · rintro sl ⟨_, s, x, rfl⟩; exact ⟨_, _, rfl⟩
    · rintro y ys sl ⟨⟨l, hl⟩, s, x, rfl⟩
      cases l with
      | nil => cases hl
      | cons i l =>
        cases hl
        have m1 : mulOk s 31 = true := mul64 (by omega)
        have p : (0 : Int) < 2147483647 := by omega
        simp only [pE.eq_1, pE.eq_2, pE.eq_3, pE.eq_4, pE.eq_5, pE.eq_6, pE.eq_7, pE.eq_8, pE.eq_9, pE.eq_10, pE.eq_11, pE.eq_12, pE.eq_13, pE.eq_14, pE.eq_15, pE.eq_16, pE.eq_17, pE.eq_18, pE.eq_19, pE.eq_20, pE.eq_21, pE.eq_22, pE.eq_23, pE.eq_24, pE.eq_25, pS.eq_1, pS.eq_2, pS.eq_3, pS.eq_4, pS.eq_5, pS.eq_6, pS.eq_7, pS.eq_8, pS.eq_9, pS.eq_10, pS.eq_11, pS.eq_12, pS.eq_13, pS.eq_14, pS.eq_15, pS.eq_16, pS.eq_17, pS.eq_18, pS.eq_19, pS.eq_22, pS.eq_24, pNew.eq_1, pNew.eq_2, pNew.eq_3, pNew.eq_4, pNew.eq_5, pNew.eq_6, pNew.eq_7, pE_comp, pE_comp2, pE_dcomp, pS_for, isNew, pSs_cons, pSs_nil, q_nx, q_rt, q_bk, q_ct, q_xc, pEs, pAs, pKV, pEo, pC, pIt, pwalk, pTg, pTgs, cB, cBD, pwipe, PR.bind_ok, PR.bind_exc, PR.ofOpt_some, PR.noExc_ok, PR.thenS_ok, PR.thenS_exc, PC.val_v, PRS.noXc, r_nx, r_rt, r_xc, a_v, a_l, a_bl, T.lim, o_add, o_sub, o_mul, o_div, o_mod, o_addT, o_addLL, o_eq, o_ne, o_lt, o_le, o_gt, o_ge, o_isN, o_isnN, o_isB, o_isnB, o_isT, o_isnT, o_isI, o_isnI, o_isL, o_isnL, eqv_int, o_ixT, o_ixR, o_ixl, o_ixbl, o_slcT, o_slcR, o_slcl, o_revT, o_revR, o_lenT, o_lenR, o_lenl, o_lenbl, o_lenD, o_lend, o_abs, o_int, o_intB, o_tupT, o_tupR, o_tupl, o_lstT, o_lstR, o_min2, o_max2, o_srt, o_repr, t_b, t_i, t_t, t_r, t_l, t_n, y_t, y_r, y_l, y_bl, z_t, z_r, l_r, l_l, it_sq, it_rng, it_rngC, it_zip, PIt.items_enum, List.getElem?_cons_zero, List.getElem?_cons_succ, List.set_cons_zero, List.set_cons_succ, Option.map_some, Option.bind_some, if_true, and_self, true_and, and_true, reduceIte, Bool.not_true, Bool.not_false, Bool.false_eq_true, Tgs.len, List.length_cons, List.length_nil, Nat.zero_add, Nat.reduceAdd, decide_true, decide_false, m1, p]
        exact ⟨⟨l, rfl⟩, _, _, rfl⟩
  obtain ⟨s, x, p3⟩ := p3
  have q1 := simS (G := G) hcl (.asg (.nm 1) (.comp false (.nm 3) (.val (.var 0)) .none (.bcall .abs (.cons (.bcall .int (.cons (.var 3) .nil)) .nil)) [3])) S0
  rw [p1] at q1
  obtain ⟨sl1, st1, e1, S1⟩ := q1
  have q2 := simS (G := G) hcl (.asg (.nm 2) (.cst (.int 7))) S1
  rw [p2] at q2
  obtain ⟨sl2, st2, e2, S2⟩ := q2
  have q3 := simS (G := G) hcl (.for (.nm 3) (.val (.var 1)) (.cons (.asg (.nm 2) (.bin .Mod (.bcall .int (.cons (.bin .Add (.bin .Mult (.var 2) (.cst (.int 31))) (.var 3)) .nil)) (.cst (.int 2147483647)))) .nil)) S2
  rw [p3] at q3
  obtain ⟨sl3, st3, e3, S3⟩ := q3
  obtain ⟨_, g1, ⟨rfl, _⟩, _⟩ := S3.sim.at_ 1 _ rfl
  obtain ⟨_, g2, ⟨rfl, _⟩, _⟩ := S3.sim.at_ 2 _ rfl
  refine ⟨tapeC (ns.map ab) 0 0 s 0, ⟨_, _, _, _, _, Int.le_refl _, rfl⟩, ?_⟩
  rw [run_gc h hF rfl]
  have e : ([T.rol (ns.map .int)].map some ++ List.replicate (4 - 1) none : Sl) = [some (.rol (ns.map .int)), none, none, none] := rfl
  have hr : evSs (run fns G N) G bTape [some (.rol (ns.map .int)), none, none, none] [] = .rt (.ref st3.length) (st3 ++ [tapeC (ns.map ab) 0 0 s 0]) := by
    unfold bTape
    rw [Ss_cons, e1, Q_nx, Ss_cons, e2, Q_nx, Ss_cons, e3, Q_nx, Ss_cons]
    simp only [evS, evE, evKV, g1, g2, R.bind_ok, R.thenS_ok, s_keyS, if_true]
    rfl
  rw [e, hr, s_toR]
  have hm : (T.ref st3.length).lim 0 = false := by simp [T.lim]
  have hk : (st3 ++ [tapeC (ns.map ab) 0 0 s 0])[st3.length]? = some (tapeC (ns.map ab) 0 0 s 0) := by simp
  have hl : (tapeC (ns.map ab) 0 0 s 0).lim 0 = true := tapeOk.lim ⟨_, _, _, _, _, Int.le_refl _, rfl⟩ 0
  unfold gc
  simp only [List.length_nil, List.take_zero, Closed, List.all_nil, Nat.zero_le, decide_true, Bool.and_self, if_true, hm, Bool.false_eq_true, if_false, hk, hl, List.nil_append]
end PF

end

section
set_option Elab.async false
set_option linter.all false
set_option maxRecDepth 10000
set_option maxHeartbeats 4000000
set_option autoImplicit false
/-! PfG2: runs that draw from the tape: what must hold so that every draw ends well. -/
namespace PF
open PySem
mutual
def fE (v : Nat) : E → Bool
  | .var i => i != v
  | .cst _ | .glb _ => true
  | .tup es | .ctp es | .lst _ es | .call _ es | .make _ es | .bcall _ es => fEs v es
  | .dct _ kvs => fKV v kvs
  | .fz e | .neg e | .not e | .rev e | .fld e _ => fE v e
  | .rep _ a b | .bin _ a b | .cmp _ a b | .and a b | .or a b | .ix a b => fE v a && fE v b
  | .chn _ _ a b c | .ite a b c => fE v a && fE v b && fE v c
  | .mcall _ o es | .own _ o es => fE v o && fEs v es
  | .slc a lo hi => fE v a && fEo v lo && fEo v hi
  | .comp _ _ it c e _ => fIt v it && fEo v c && fE v e
  | .compx _ it c e _ => fIt v it && fEo v c && fE v e
  | .comp2 _ _ it c _ it1 c1 e _ _ => fIt v it && fEo v c && fIt v it1 && fEo v c1 && fE v e
  | .dcomp _ _ it c k e _ => fIt v it && fEo v c && fE v k && fE v e
def fEs (v : Nat) : Es → Bool
  | .nil => true
  | .cons e es => fE v e && fEs v es
def fKV (v : Nat) : KVs → Bool
  | .nil => true
  | .cons k e r => fE v k && fE v e && fKV v r
def fEo (v : Nat) : Eo → Bool
  | .none => true
  | .some e => fE v e
def fIt (v : Nat) : It → Bool
  | .val e | .enum e => fE v e
  | .range es => fEs v es
  | .zip a b => fE v a && fE v b
end
mutual
def kTg (v : Nat) : Tg → Bool
  | .nm i => i != v
  | .tup ts => kTgs v ts
  | _ => true
def kTgs (v : Nat) : Tgs → Bool
  | .nil => true
  | .cons t ts => kTg v t && kTgs v ts
end
/-- statements that draw nothing and keep slot v -/
def simpleS (v : Nat) : S → Bool
  | .asg tg e => kTg v tg && fE v e
  | .par i j a b => i != v && j != v && fE v a && fE v b
  | .aug i _ e => i != v && fE v e
  | .fz i => i != v
  | .expr e | .ret e => fE v e
  | .retN | .pass | .brk | .cnt | .raise _ _ => true
  | _ => false
inductive All2 {α β : Type} (R : α → β → Prop) : List α → List β → Prop
  | nil : All2 R [] []
  | cons {a : α} {b : β} {as : List α} {bs : List β} : R a b → All2 R as bs → All2 R (a :: as) (b :: bs)
def wOk (r : PRS) (Q : PRS → Prop) : Prop := match r with
  | .stuck => False
  | r => Q r
section
variable (pcl : PCall) (G : Tab) (D : Drs) (tv : Nat)
def wP (e : E) (ps : PSl) (Q : T → Prop) (w : Prop) : Prop := if fE tv e then ∃ t, pE pcl G e ps = .ok (.v t) ∧ Q t else w
def wPt (it : It) (ps : PSl) (Q : PIt → Prop) (w : Prop) : Prop := if fIt tv it then ∃ p, pIt pcl G false it ps = .ok p ∧ Q p else w
mutual
def wE : E → PSl → (T → Prop) → Prop
  | .var i, ps, Q => ∃ t, pE pcl G (.var i) ps = .ok (.v t) ∧ Q t
  | .cst t, ps, Q => ∃ u, pE pcl G (.cst t) ps = .ok (.v u) ∧ Q u
  | .tup es, ps, Q => wP pcl G tv (.tup es) ps Q (wEs es ps fun ts => ts.length ≤ sizeLine ∧ Q (.tup ts))
  | .lst m es, ps, Q => wP pcl G tv (.lst m es) ps Q (m = false ∧ wEs es ps fun ts => ts.length ≤ sizeLine ∧ Q (.rol ts))
  | .dct m kvs, ps, Q => wP pcl G tv (.dct m kvs) ps Q (m = false ∧ wKV kvs ps fun kvs => kvs.length ≤ 15 ∧ Q (.rod (kvs.foldl (fun acc p => dPut p.1 p.2 acc) [])))
  | .bin op a b, ps, Q => wP pcl G tv (.bin op a b) ps Q (wE a ps fun x => wE b ps fun y => ∃ z, pbin op (.v x) (.v y) = .ok (.v z) ∧ Q z)
  | .neg a, ps, Q => wP pcl G tv (.neg a) ps Q (wE a ps fun x => ∃ i, x = .int i ∧ Q (.int (-i)))
  | .cmp op a b, ps, Q => wP pcl G tv (.cmp op a b) ps Q (wE a ps fun x => wE b ps fun y => ∃ k, pcmp op (.v x) (.v y) = some k ∧ Q (.bl k))
  | .and a b, ps, Q => wP pcl G tv (.and a b) ps Q (wE a ps fun x => ∃ k, ptru (.v x) = some k ∧ if k then wE b ps Q else Q x)
  | .or a b, ps, Q => wP pcl G tv (.or a b) ps Q (wE a ps fun x => ∃ k, ptru (.v x) = some k ∧ if k then Q x else wE b ps Q)
  | .not a, ps, Q => wP pcl G tv (.not a) ps Q (wE a ps fun x => ∃ k, ptru (.v x) = some k ∧ Q (.bl !k))
  | .ite c a b, ps, Q => wP pcl G tv (.ite c a b) ps Q (wE c ps fun x => ∃ k, ptru (.v x) = some k ∧ if k then wE a ps Q else wE b ps Q)
  | .ix a i, ps, Q => wP pcl G tv (.ix a i) ps Q (wE a ps fun x => wE i ps fun y => ∃ z, pix (.v x) (.v y) = some z ∧ Q z)
  | .bcall b es, ps, Q => wP pcl G tv (.bcall b es) ps Q (wEs es ps fun ts => ∃ z, pbfn b (ts.map .v) = .ok (.v z) ∧ Q z)
  | .call f es, ps, Q => wP pcl G tv (.call f es) ps Q (match es with
    | .cons (.var v) es' => (v = tv ∧ wEs es' ps fun ts => D f ts Q) ∨ (v ≠ tv ∧ wE (.var v) ps fun t => wEs es' ps fun ts => ∃ z, pcl f ((t :: ts).map .v) = .ok z ∧ Q z)
    | .cons e es' => wE e ps fun t => wEs es' ps fun ts => ∃ z, pcl f ((t :: ts).map .v) = .ok z ∧ Q z
    | .nil => False)
  | .comp m tg it c e own, ps, Q => wP pcl G tv (.comp m tg it c e own) ps Q (m = false ∧ c = .none ∧ wIt it ps fun J => ∃ R : T → T → Prop, J.len ≤ sizeLine ∧
      (∀ x ∈ J.items, ∃ ps', pTg pcl G tg x (pwipe ps own) = .ok ps' ∧ own.contains tv = false ∧ kTg tv tg = true ∧ wE e ps' (R x)) ∧ ∀ ys, All2 R J.items ys → Q (.rol ys))
  | e, ps, Q => ∃ t, pE pcl G e ps = .ok (.v t) ∧ Q t
def wEs : Es → PSl → (List T → Prop) → Prop
  | .nil, _, Q => Q []
  | .cons e es, ps, Q => wE e ps fun t => wEs es ps fun ts => Q (t :: ts)
def wKV : KVs → PSl → (List (T × T) → Prop) → Prop
  | .nil, _, Q => Q []
  | .cons k v r, ps, Q => wE k ps fun a => wE v ps fun b => wKV r ps fun r => isKey a = true ∧ Q ((a, b) :: r)
def wIt : It → PSl → (PIt → Prop) → Prop
  | .val e, ps, Q => wPt pcl G tv (.val e) ps Q (wE e ps fun t => ∃ xs, pseq (.v t) = some xs ∧ Q (.sq xs))
  | .range es, ps, Q => wPt pcl G tv (.range es) ps Q (wEs es ps fun ts => ∃ p, (itRange ts).bind PIt.ofI = some p ∧ Q p)
  | it, ps, Q => ∃ p, pIt pcl G false it ps = .ok p ∧ Q p
end
def wC (c : E) (ps : PSl) (Q : Bool → Prop) : Prop := if fE tv c then ∃ k, ((pE pcl G c ps).bind fun x => ptruR x) = .ok k ∧ Q k else wE pcl G D tv c ps fun t => ∃ k, ptru (.v t) = some k ∧ Q k
mutual
def wS : S → PSl → (PRS → Prop) → Prop
  | .ifS c a b, ps, Q => wC pcl G D tv c ps fun k => if k then wSs a ps Q else wSs b ps Q
  | .for tg it b, ps, Q => kTg tv tg = true ∧ wIt pcl G D tv it ps fun J => ∃ I : List T → PSl → Prop, I J.items ps ∧
      (∀ x xs ps, I (x :: xs) ps → ∃ ps', pTg pcl G tg x ps = .ok ps' ∧ wSs b ps' fun r => match r with
        | .nx p => I xs p
        | .ct p => I xs p
        | .bk p => Q (.nx p)
        | r => Q r) ∧ ∀ ps, I [] ps → Q (.nx ps)
  | .tryS b c as h, ps, Q => as = none ∧ wSs b ps fun r => match r with
      | .xc x p => x.cls = c ∧ wSs h p fun r => match r with
        | .xc _ _ => False
        | r => Q r
      | r => Q r
  | .whl _ _, _, _ => False
  | .asg tg e, ps, Q => if simpleS tv (.asg tg e) then wOk (pS pcl G (.asg tg e) ps) Q else match tg with
    | .nm i => i ≠ tv ∧ wE pcl G D tv e ps fun t => Q (.nx (ps.set i (some (.v t))))
    | .tup ts => kTgs tv ts = true ∧ wE pcl G D tv e ps fun t => ∃ ps', pTg pcl G (.tup ts) t ps = .ok ps' ∧ Q (.nx ps')
    | _ => False
  | .expr e, ps, Q => if simpleS tv (.expr e) then wOk (pS pcl G (.expr e) ps) Q else match e with
    | .mcall .append (.var i) (.cons a .nil) => i ≠ tv ∧ ∃ xs, ps[i]? = some (some (.l xs)) ∧ xs.length < sizeLine ∧ wE pcl G D tv a ps fun t => Q (.nx (ps.set i (some (.l (xs ++ [t])))))
    | e => wE pcl G D tv e ps fun _ => Q (.nx ps)
  | .ret e, ps, Q => if simpleS tv (.ret e) then wOk (pS pcl G (.ret e) ps) Q else wE pcl G D tv e ps fun t => Q (.rt t)
  | .par i j a b, ps, Q => if simpleS tv (.par i j a b) then wOk (pS pcl G (.par i j a b) ps) Q else (i ≠ tv ∧ j ≠ tv ∧ wE pcl G D tv a ps fun x => wE pcl G D tv b ps fun y => Q (.nx ((ps.set i (some (.v x))).set j (some (.v y)))))
  | s, ps, Q => simpleS tv s = true ∧ wOk (pS pcl G s ps) Q
def wSs : Ss → PSl → (PRS → Prop) → Prop
  | .nil, ps, Q => Q (.nx ps)
  | .cons s ss, ps, Q => wS s ps fun r => match r with
    | .nx p => wSs ss p Q
    | r => Q r
end
end
/-! ### slots and store -/
structure SimT (n k tv : Nat) (st0 st : Store) (sl : Sl) (ps : PSl) : Prop where
  nk : n < k
  l0 : st0.length = k
  simN : Sim n st sl ps
  simK : Sim k st sl ps
  cls : Cls st
  le : k ≤ st.length
  pre : ∃ c, tapeOk c ∧ st.take k = st0.set n c
  tape : sl[tv]? = some (some (.ref n))
def Dr (n : Nat) (st st' : Store) : Prop := ∃ c, tapeOk c ∧ st' = st.set n c
def OkD {α : Type} (n : Nat) (r : R α) (st : Store) (Q : α → Prop) : Prop := ∃ a st', r = .ok a st' ∧ Dr n st st' ∧ Q a
section
variable {n k tv : Nat} {st0 st st' : Store} {sl : Sl} {ps : PSl}
theorem SimT.cell (S : SimT n k tv st0 st sl ps) : ∃ c, tapeOk c ∧ st[n]? = some c := by
  obtain ⟨c, hc, e⟩ := S.pre
  refine ⟨c, hc, ?_⟩
  have h1 : (st.take k)[n]? = st[n]? := List.getElem?_take_of_lt S.nk
  rw [← h1, e, List.getElem?_set_self (by rw [S.l0]; exact S.nk)]
theorem SimT.refl (S : SimT n k tv st0 st sl ps) : Dr n st st := by
  obtain ⟨c, hc, e⟩ := S.cell
  refine ⟨c, hc, ?_⟩
  apply List.ext_getElem?
  intro i
  rw [List.getElem?_set]
  split
  · rename_i h; subst h; rw [e]; simp [lt_of_get e]
  · rfl
theorem Dr.trans {st'' : Store} (h : Dr n st st') (h' : Dr n st' st'') : Dr n st st'' := by
  obtain ⟨c, hc, rfl⟩ := h
  obtain ⟨c', hc', rfl⟩ := h'
  exact ⟨c', hc', List.set_set ..⟩
theorem RelA.away {t : T} {p : PC} {c : Cell} (h : RelA st t p) (hn : ∀ m, t = .ref m → p.own = true ∨ p.bor = true → m ≠ n) : RelA (st.set n c) t p := by
  have key : ∀ {m : Nat} {d : Cell}, m ≠ n → st[m]? = some d → (st.set n c)[m]? = some d := fun h e => by rw [List.getElem?_set_ne (Ne.symm h)]; exact e
  cases p with
  | v u => exact h
  | l xs => obtain ⟨m, e, g, q⟩ := h; exact ⟨m, e, key (hn m e (.inl rfl)) g, q⟩
  | bl xs => obtain ⟨m, e, g, q⟩ := h; exact ⟨m, e, key (hn m e (.inr rfl)) g, q⟩
  | d xs => obtain ⟨m, e, g, q⟩ := h; exact ⟨m, e, key (hn m e (.inl rfl)) g, q⟩
  | bd xs => obtain ⟨m, e, g, q⟩ := h; exact ⟨m, e, key (hn m e (.inr rfl)) g, q⟩
theorem SimT.ne (S : SimT n k tv st0 st sl ps) {i : Nat} {p : PC} {t : T} (hp : ps[i]? = some (some p)) (ht : sl[i]? = some (some t)) : ∀ m, t = .ref m → p.own = true ∨ p.bor = true → m ≠ n := by
  intro m e o
  obtain ⟨u, e1, r1, q1⟩ := S.simN.at_ i p hp
  obtain ⟨u', e2, r2, q2⟩ := S.simK.at_ i p hp
  rw [ht] at e1 e2; cases e1; cases e2
  have nk := S.nk
  rcases o with o | o
  · have := (q2 m e).1 o; omega
  · have := (q1 m e).2 o; omega
theorem SimT.draw (S : SimT n k tv st0 st sl ps) (h : Dr n st st') : SimT n k tv st0 st' sl ps := by
  obtain ⟨c, hc, rfl⟩ := h
  have key : ∀ {m : Nat}, Sim m st sl ps → Sim m (st.set n c) sl ps := fun {m} z => ⟨z.len, fun i p e => by
    obtain ⟨t, e1, r, q⟩ := z.at_ i p e
    exact ⟨t, e1, r.away (S.ne e e1), q⟩, z.inj⟩
  obtain ⟨c0, hc0, e⟩ := S.pre
  refine ⟨S.nk, S.l0, key S.simN, key S.simK, S.cls.set (hc.lim _), by rw [List.length_set]; exact S.le, ⟨c, hc, ?_⟩, S.tape⟩
  rw [List.take_set, e, List.set_set]
theorem SimT.toN (S : SimT n k tv st0 st sl ps) : SimS (st.take n) st sl ps := by
  have l : (st.take n).length = n := by rw [List.length_take]; have := S.le; have := S.nk; omega
  exact ⟨by rw [l]; exact S.simN, S.cls, by rw [l], by rw [l]; have := S.le; have := S.nk; omega⟩
theorem SimT.toK (S : SimT n k tv st0 st sl ps) : SimS (st.take k) st sl ps := by
  have l : (st.take k).length = k := by rw [List.length_take]; have := S.le; omega
  exact ⟨by rw [l]; exact S.simK, S.cls, by rw [l], by rw [l]; exact S.le⟩
theorem SimT.next {sl' : Sl} {ps' : PSl} (S : SimT n k tv st0 st sl ps) (h1 : SimS (st.take n) st' sl' ps') (h2 : SimS (st.take k) st' sl' ps') (ht : sl'[tv]? = sl[tv]?) : SimT n k tv st0 st' sl' ps' := by
  have l1 : (st.take n).length = n := by rw [List.length_take]; have := S.le; have := S.nk; omega
  have l2 : (st.take k).length = k := by rw [List.length_take]; have := S.le; omega
  refine ⟨S.nk, S.l0, by have := h1.sim; rwa [l1] at this, by have := h2.sim; rwa [l2] at this, h2.cls, by have := h2.le; rwa [l2] at this, ?_, by rw [ht]; exact S.tape⟩
  obtain ⟨c, hc, e⟩ := S.pre
  refine ⟨c, hc, ?_⟩
  have := h2.pre
  rw [l2] at this
  rw [this, e]
theorem SimT.slots {sl' : Sl} {ps' : PSl} (S : SimT n k tv st0 st sl ps) (h1 : Sim n st sl' ps') (h2 : Sim k st sl' ps') (ht : sl'[tv]? = sl[tv]?) : SimT n k tv st0 st sl' ps' :=
  ⟨S.nk, S.l0, h1, h2, S.cls, S.le, S.pre, by rw [ht]; exact S.tape⟩
theorem OkD.bind {α β : Type} {r : R α} {f : α → Store → R β} {Q : α → Prop} {Q' : β → Prop} (h : OkD n r st Q) (S : SimT n k tv st0 st sl ps) (hk : ∀ a st', SimT n k tv st0 st' sl ps → Q a → OkD n (f a st') st' Q') : OkD n (r.bind f) st Q' := by
  obtain ⟨a, st1, rfl, d, q⟩ := h
  obtain ⟨b, st2, e, d2, q2⟩ := hk a st1 (S.draw d) q
  exact ⟨b, st2, e, d.trans d2, q2⟩
theorem OkD.mono {α : Type} {r : R α} {Q Q' : α → Prop} (h : OkD n r st Q) (hk : ∀ a, Q a → Q' a) : OkD n r st Q' := by
  obtain ⟨a, st1, e, d, q⟩ := h
  exact ⟨a, st1, e, d, hk a q⟩
theorem SimT.ret {α : Type} {a : α} {Q : α → Prop} (S : SimT n k tv st0 st sl ps) (h : Q a) : OkD n (.ok a st) st Q := ⟨a, st, rfl, S.refl, h⟩
theorem SimT.opt {α : Type} {o : Option α} {a : α} {Q : α → Prop} (S : SimT n k tv st0 st sl ps) (e : o = some a) (h : Q a) : OkD n (R.ofOpt st o) st Q := by subst e; exact S.ret h
/-- a value made of values -/
theorem SimT.rel {r : R T} {p : PR PC} {z : T} {Q : T → Prop} (S : SimT n k tv st0 st sl ps) (h : RelR st (RelA st) r p) (e : p = .ok (.v z)) (hQ : Q z) : OkD n r st fun t => Pur t ∧ Q t := by
  subst e
  obtain ⟨a, rfl, rfl, hp⟩ := h
  exact S.ret ⟨hp, hQ⟩
theorem vA {t : T} (h : Pur t) : RelA st t (.v t) := ⟨rfl, h⟩
theorem vAs : ∀ {ts : List T}, Purs ts → RelAs st ts (ts.map .v)
  | [], _ => .nil
  | t :: ts, h => .cons (vA (lims_iff.mp h t List.mem_cons_self)) (vAs (lims_iff.mpr fun x hx => lims_iff.mp h x (List.mem_cons_of_mem _ hx)))
theorem evTg_tape {cl : Call} {G : Tab} {tv : Nat} : ∀ (tg : Tg), kTg tv tg = true → ∀ {x : T} {sl sl' : Sl} {st st' : Store}, evTg cl G tg x sl st = .ok sl' st' → sl'[tv]? = sl[tv]?
  | .nm i, h, x, sl, sl', st, st', e => by
    unfold evTg at e; cases e
    simp only [kTg, bne_iff_ne, ne_eq] at h
    rw [List.getElem?_set_ne h]
  | .tup ts, h, x, sl, sl', st, st', e => by
    unfold evTg at e
    unfold kTg at h
    cases x <;> first | (cases e; done) | skip
    · dsimp only at e
      split at e
      · exact go ts h e
      · cases e
    · dsimp only at e
      split at e
      · exact go ts h e
      · cases e
  | .sub o i, h, x, sl, sl', st, st', e => by
    unfold evTg at e
    cases h1 : evE cl G o sl st with
    | stuck => rw [h1] at e; cases e
    | exc _ _ => rw [h1] at e; cases e
    | ok a st1 =>
      rw [h1, R.bind_ok] at e
      cases h2 : evE cl G i sl st1 with
      | stuck => rw [h2] at e; cases e
      | exc _ _ => rw [h2] at e; cases e
      | ok b st2 =>
        rw [h2, R.bind_ok] at e
        cases h3 : setIx a b x st2 with
        | stuck => rw [h3] at e; cases e
        | exc _ _ => rw [h3] at e; cases e
        | ok c st3 => rw [h3, R.bind_ok] at e; cases e; rfl
  | .fld o f, h, x, sl, sl', st, st', e => by
    unfold evTg at e
    cases h1 : evE cl G o sl st with
    | stuck => rw [h1] at e; cases e
    | exc _ _ => rw [h1] at e; cases e
    | ok a st1 =>
      rw [h1, R.bind_ok] at e
      split at e
      · split at e
        · split at e
          · cases e; rfl
          · cases e
        · cases e
      · cases e
where
  go : ∀ (ts : Tgs), kTgs tv ts = true → ∀ {xs : List T} {sl sl' : Sl} {st st' : Store}, evTgs cl G ts xs sl st = .ok sl' st' → sl'[tv]? = sl[tv]?
  | .nil, h, xs, sl, sl', st, st', e => by
    unfold evTgs at e
    cases xs with
    | nil => cases e; rfl
    | cons _ _ => cases e
  | .cons t ts, h, xs, sl, sl', st, st', e => by
    unfold evTgs at e
    unfold kTgs at h
    rw [Bool.and_eq_true] at h
    cases xs with
    | nil => cases e
    | cons x xs =>
      dsimp only at e
      cases h1 : evTg cl G t x sl st with
      | stuck => rw [h1] at e; cases e
      | exc _ _ => rw [h1] at e; cases e
      | ok a st1 =>
        rw [h1, R.bind_ok] at e
        rw [go ts h.2 e]
        exact evTg_tape t h.1 h1
theorem wipe_tape {own : List Nat} (h : own.contains tv = false) : (wipeL sl own)[tv]? = sl[tv]? := by
  induction own with
  | nil => rfl
  | cons v vs ih =>
    simp only [List.contains_cons, Bool.or_eq_false_iff, beq_eq_false_iff_ne] at h
    show ((wipeL sl vs).set v none)[tv]? = _
    rw [List.getElem?_set_ne (Ne.symm h.1)]
    exact ih h.2
/-- a target that is stored -/
theorem SimT.tg {cl : Call} {pcl : PCall} {G : Tab} (hcl : ClOk cl pcl) (S : SimT n k tv st0 st sl ps) {tg : Tg} (hk : kTg tv tg = true) {x : T} (hx : Pur x) {ps' : PSl} (e : pTg pcl G tg x ps = .ok ps') :
    ∃ sl', evTg cl G tg x sl st = .ok sl' st ∧ SimT n k tv st0 st sl' ps' := by
  have h1 := simTg (G := G) hcl S.cls tg hx S.simN
  have h2 := simTg (G := G) hcl S.cls tg hx S.simK
  rw [e] at h1 h2
  obtain ⟨sl1, e1, s1⟩ := h1
  obtain ⟨sl2, e2, s2⟩ := h2
  rw [e1] at e2; cases e2
  exact ⟨sl1, e1, S.slots s1 s2 (evTg_tape tg hk e1)⟩
theorem SimT.wipe (S : SimT n k tv st0 st sl ps) {own : List Nat} (h : own.contains tv = false) : SimT n k tv st0 st (wipeL sl own) (pwipe ps own) := S.slots (S.simN.wipe own) (S.simK.wipe own) (wipe_tape h)
end
end PF

end

section
set_option Elab.async false
set_option linter.all false
set_option maxRecDepth 10000
set_option maxHeartbeats 4000000
set_option autoImplicit false
/-! PfG3: .. and so it is. -/
namespace PF
open PySem
section
variable {n k tv : Nat} {st0 : Store} {cl : Call} {pcl : PCall} {G : Tab} {D : Drs}
theorem pureE (hcl : ClOk cl pcl) {e : E} {st : Store} {sl : Sl} {ps : PSl} {Q : T → Prop} (S : SimT n k tv st0 st sl ps) (h : ∃ t, pE pcl G e ps = .ok (.v t) ∧ Q t) : OkD n (evE cl G e sl st) st fun t => Pur t ∧ Q t := by
  obtain ⟨t, e1, q⟩ := h
  exact S.rel (simE (G := G) hcl S.cls e S.simK) e1 q
theorem wP_ok (hcl : ClOk cl pcl) {e : E} {st : Store} {sl : Sl} {ps : PSl} {Q : T → Prop} {w : Prop} (S : SimT n k tv st0 st sl ps) (h : wP pcl G tv e ps Q w) (hw : w → OkD n (evE cl G e sl st) st fun t => Pur t ∧ Q t) : OkD n (evE cl G e sl st) st fun t => Pur t ∧ Q t := by
  unfold wP at h
  split at h
  · exact pureE hcl S h
  · exact hw h
theorem tru_v {t : T} {k : Bool} {st : Store} (hp : Pur t) (e : ptru (.v t) = some k) : truR st t = .ok k st := by
  unfold truR
  rw [(vA (st := st) hp).tru e]
  rfl
theorem simpleC {J : Itv} {p : PIt} {RR : T → T → Prop} {sl : Sl} {ps : PSl} (hJ : ∀ st', RelJ st' J p) (hl : p.len ≤ sizeLine)
    {body : T → Store → R (Option T)} (hb : ∀ x ∈ p.items, Pur x → ∀ st, SimT n k tv st0 st sl ps → OkD n (body x st) st fun o => ∃ y, o = some y ∧ Pur y ∧ RR x y) :
    ∀ (m i : Nat) (acc : List T) (st : Store), i + m = p.len → acc.length = i → Purs acc → SimT n k tv st0 st sl ps → OkD n (compL J body m i acc st) st fun ys => ∃ zs, ys = acc ++ zs ∧ Purs ys ∧ All2 RR (p.items.drop i) zs
  | 0, i, acc, st, e, ea, hp, S => by
    unfold compL
    rw [if_pos (by rw [(hJ st).1]; congr 1; omega)]
    rw [List.drop_of_length_le (by rw [p.items_len]; omega)]
    exact S.ret ⟨[], by simp, hp, .nil⟩
  | m + 1, i, acc, st, e, ea, hp, S => by
    obtain ⟨x, h1, h2⟩ := drop_at (l := p.items) (i := i) (n := m) (by rw [p.items_len]; exact e)
    have h1' := h1
    rw [p.items_get] at h1'
    obtain ⟨g, kx⟩ := (hJ st).2 i x h1'
    unfold compL
    rw [g]
    refine (hb x (List.mem_of_getElem? h1) kx st S).bind S fun o st' S' q => ?_
    obtain ⟨y, rfl, py, ry⟩ := q
    dsimp only
    rw [if_pos (by omega)]
    refine (simpleC hJ hl hb m (i + 1) (acc ++ [y]) st' (by omega) (by rw [List.length_append, List.length_singleton]; omega) (purs_app hp (purs_one py)) S').mono fun ys q => ?_
    obtain ⟨zs, rfl, p1, a1⟩ := q
    refine ⟨y :: zs, by rw [List.append_assoc]; rfl, p1, ?_⟩
    rw [h2]
    exact .cons ry a1
mutual
theorem soundE (hcl : ClOk cl pcl) (hD : DrOk cl D) : ∀ (e : E) {st : Store} {sl : Sl} {ps : PSl} {Q : T → Prop}, SimT n k tv st0 st sl ps → wE pcl G D tv e ps Q → OkD n (evE cl G e sl st) st fun t => Pur t ∧ Q t
  | .var i, st, sl, ps, Q, S, h => pureE hcl S (by unfold wE at h; exact h)
  | .cst t, st, sl, ps, Q, S, h => pureE hcl S (by unfold wE at h; exact h)
  | .tup es, st, sl, ps, Q, S, h => by
    unfold wE at h
    refine wP_ok hcl S h fun h => ?_
    unfold evE
    refine (soundEs hcl hD es S h).bind S fun ts st' S' q => ?_
    rw [if_pos q.2.1]
    exact S'.ret ⟨pur_tup.mpr q.1, q.2.2⟩
  | .lst m es, st, sl, ps, Q, S, h => by
    unfold wE at h
    refine wP_ok hcl S h fun h' => ?_
    clear h
    obtain ⟨rfl, h⟩ := h'
    unfold evE
    refine (soundEs hcl hD es S h).bind S fun ts st' S' q => ?_
    rw [if_pos q.2.1]
    exact S'.ret ⟨pur_rol.mpr q.1, q.2.2⟩
  | .bin op a b, st, sl, ps, Q, S, h => by
    unfold wE at h
    refine wP_ok hcl S h fun h => ?_
    unfold evE
    refine (soundE hcl hD a S h).bind S fun x st' S' q => (soundE hcl hD b S' q.2).bind S' fun y st'' S'' q' => ?_
    obtain ⟨z, e, hz⟩ := q'.2
    exact S''.rel (pbin_ok (vA q.1) (vA q'.1)) e hz
  | .neg a, st, sl, ps, Q, S, h => by
    unfold wE at h
    refine wP_ok hcl S h fun h => ?_
    unfold evE
    refine (soundE hcl hD a S h).bind S fun x st' S' q => ?_
    obtain ⟨_, i, rfl, hz⟩ := q
    exact S'.ret ⟨rfl, hz⟩
  | .cmp op a b, st, sl, ps, Q, S, h => by
    unfold wE at h
    refine wP_ok hcl S h fun h => ?_
    unfold evE
    refine (soundE hcl hD a S h).bind S fun x st' S' q => (soundE hcl hD b S' q.2).bind S' fun y st'' S'' q' => ?_
    obtain ⟨z, e, hz⟩ := q'.2
    rw [pcmp_ok (vA q.1) (vA q'.1) e]
    exact S''.ret ⟨rfl, hz⟩
  | .and a b, st, sl, ps, Q, S, h => by
    unfold wE at h
    refine wP_ok hcl S h fun h => ?_
    unfold evE
    refine (soundE hcl hD a S h).bind S fun x st' S' q => ?_
    obtain ⟨hx, kk, e, hz⟩ := q
    rw [tru_v hx e, R.bind_ok]
    cases kk with
    | true => exact soundE hcl hD b S' (by simpa using hz)
    | false => exact S'.ret ⟨hx, by simpa using hz⟩
  | .or a b, st, sl, ps, Q, S, h => by
    unfold wE at h
    refine wP_ok hcl S h fun h => ?_
    unfold evE
    refine (soundE hcl hD a S h).bind S fun x st' S' q => ?_
    obtain ⟨hx, kk, e, hz⟩ := q
    rw [tru_v hx e, R.bind_ok]
    cases kk with
    | false => exact soundE hcl hD b S' (by simpa using hz)
    | true => exact S'.ret ⟨hx, by simpa using hz⟩
  | .not a, st, sl, ps, Q, S, h => by
    unfold wE at h
    refine wP_ok hcl S h fun h => ?_
    unfold evE
    refine (soundE hcl hD a S h).bind S fun x st' S' q => ?_
    obtain ⟨hx, kk, e, hz⟩ := q
    rw [tru_v hx e, R.bind_ok]
    exact S'.ret ⟨rfl, hz⟩
  | .ite c a b, st, sl, ps, Q, S, h => by
    unfold wE at h
    refine wP_ok hcl S h fun h => ?_
    unfold evE
    refine (soundE hcl hD c S h).bind S fun x st' S' q => ?_
    obtain ⟨hx, kk, e, hz⟩ := q
    rw [tru_v hx e, R.bind_ok]
    cases kk with
    | true => exact soundE hcl hD a S' (by simpa using hz)
    | false => exact soundE hcl hD b S' (by simpa using hz)
  | .ix a i, st, sl, ps, Q, S, h => by
    unfold wE at h
    refine wP_ok hcl S h fun h => ?_
    unfold evE
    refine (soundE hcl hD a S h).bind S fun x st' S' q => (soundE hcl hD i S' q.2).bind S' fun y st'' S'' q' => ?_
    obtain ⟨z, e, hz⟩ := q'.2
    exact S''.rel (pix_ok (vA q.1) (vA q'.1)) (by rw [e]; rfl) hz
  | .bcall b es, st, sl, ps, Q, S, h => by
    unfold wE at h
    refine wP_ok hcl S h fun h => ?_
    unfold evE
    refine (soundEs hcl hD es S h).bind S fun ts st' S' q => ?_
    obtain ⟨z, e, hz⟩ := q.2
    exact S'.rel (pbfn_ok (vAs q.1)) e hz
  | .call f es, st, sl, ps, Q, S, h => by
    unfold wE at h
    refine wP_ok hcl S h fun h' => ?_
    clear h
    have h := h'
    clear h'
    unfold evE
    have fin : ∀ {ts : List T} {st' : Store}, SimT n k tv st0 st' sl ps → Purs ts → (∃ z, pcl f (ts.map .v) = .ok z ∧ Q z) → OkD n (cl f ts st') st' fun t => Pur t ∧ Q t := fun {ts st'} S' hp q => by
      obtain ⟨z, e, hz⟩ := q
      have h := hcl f ts (ts.map .v) st' S'.cls (vAs hp)
      rw [e] at h
      obtain ⟨a, e1, rfl, h2⟩ := h
      rw [e1]
      exact S'.ret ⟨h2, hz⟩
    cases es with
    | nil => exact h.elim
    | cons e es =>
      have gen : (wE pcl G D tv e ps fun t => wEs pcl G D tv es ps fun ts => ∃ z, pcl f ((t :: ts).map .v) = .ok z ∧ Q z) → OkD n ((evEs cl G (.cons e es) sl st).bind fun ts st => cl f ts st) st fun t => Pur t ∧ Q t := fun h => by
        have q : OkD n (evEs cl G (.cons e es) sl st) st fun ts => Purs ts ∧ ∃ z, pcl f (ts.map .v) = .ok z ∧ Q z := by
          unfold evEs
          refine (soundE hcl hD e S h).bind S fun t st' S' q => (soundEs hcl hD es S' q.2).bind S' fun ts st'' S'' q' => ?_
          exact S''.ret ⟨purs_app (purs_one q.1) q'.1, q'.2⟩
        exact q.bind S fun ts st' S' q => fin S' q.1 q.2
      cases e with
      | var v =>
        dsimp only at h
        rcases h with ⟨hv, h⟩ | ⟨_, h⟩
        · have q0 := soundEs hcl hD es S h
          have q : OkD n (evEs cl G (.cons (.var v) es) sl st) st fun us => ∃ ts, us = .ref n :: ts ∧ Purs ts ∧ D f ts Q := by
            unfold evEs evE
            rw [hv, S.tape]
            dsimp only
            rw [R.bind_ok]
            exact q0.bind S fun ts st' S' q => S'.ret ⟨ts, rfl, q⟩
          refine q.bind S fun us st' S' q => ?_
          obtain ⟨ts, rfl, hp, d⟩ := q
          obtain ⟨c, hc, hg⟩ := S'.cell
          obtain ⟨t, c', hc', hr, ht, hq⟩ := hD f ts Q hp d n st' c S'.cls hc hg
          exact ⟨t, _, hr, ⟨c', hc', rfl⟩, ht, hq⟩
        · exact gen h
      | _ => exact gen h
  | .comp m tg it c e own, st, sl, ps, Q, S, h => by
    unfold wE at h
    refine wP_ok hcl S h fun h' => ?_
    clear h
    obtain ⟨rfl, rfl, h⟩ := h'
    unfold evE
    refine (soundIt hcl hD it S h).bind S fun J st' S' q => ?_
    obtain ⟨p, hJ, RR, hlen, hb, hQ⟩ := q
    rw [(hJ st').1]
    dsimp only
    have q := simpleC (n := n) (k := k) (tv := tv) (st0 := st0) (RR := RR) hJ hlen (sl := sl) (ps := ps)
      (body := fun x st => (evTg cl G tg x (wipeL sl own) st).bind fun sl' st => (evC cl G .none sl' st).bind fun b st =>
        if b then (evE cl G e sl' st).bind fun y st => .ok (some y) st else .ok none st) (fun x hx px st2 S2 => by
          obtain ⟨ps', e1, ho, hk, hw⟩ := hb x hx
          obtain ⟨sl', e2, S3⟩ := (S2.wipe ho).tg hcl hk px e1
          rw [e2, R.bind_ok]
          unfold evC
          rw [R.bind_ok, if_pos rfl]
          exact (soundE hcl hD e S3 hw).bind S3 fun y st4 S4 q => S4.ret ⟨y, rfl, q.1, q.2⟩) p.len 0 [] st' (Nat.zero_add _) rfl rfl S'
    obtain ⟨ys, st'', e1, d, zs, rfl, hp, ha⟩ := q
    rw [e1, R.bind_ok]
    exact ⟨.rol _, st'', rfl, d, pur_rol.mpr hp, hQ _ ha⟩
  | .glb x, st, sl, ps, Q, S, h => pureE hcl S (by simpa only [wE] using h)
  | .dct m kvs, st, sl, ps, Q, S, h => by
    unfold wE at h
    refine wP_ok hcl S h fun h' => ?_
    clear h
    obtain ⟨rfl, h⟩ := h'
    unfold evE
    refine (soundKV hcl hD kvs S h).bind S fun ts st' S' q => ?_
    rw [if_pos q.2.1]
    exact S'.ret ⟨pur_rod.mpr (pur_fold q.1 rfl), q.2.2⟩
  | .fz e, st, sl, ps, Q, S, h => pureE hcl S (by simpa only [wE] using h)
  | .rep m a b, st, sl, ps, Q, S, h => pureE hcl S (by simpa only [wE] using h)
  | .chn o1 o2 a b c, st, sl, ps, Q, S, h => pureE hcl S (by simpa only [wE] using h)
  | .make c es, st, sl, ps, Q, S, h => pureE hcl S (by simpa only [wE] using h)
  | .mcall m o es, st, sl, ps, Q, S, h => pureE hcl S (by simpa only [wE] using h)
  | .own m o es, st, sl, ps, Q, S, h => pureE hcl S (by simpa only [wE] using h)
  | .fld o f, st, sl, ps, Q, S, h => pureE hcl S (by simpa only [wE] using h)
  | .ctp es, st, sl, ps, Q, S, h => pureE hcl S (by simpa only [wE] using h)
  | .compx tg it c e own, st, sl, ps, Q, S, h => pureE hcl S (by simpa only [wE] using h)
  | .slc a lo hi, st, sl, ps, Q, S, h => pureE hcl S (by simpa only [wE] using h)
  | .rev a, st, sl, ps, Q, S, h => pureE hcl S (by simpa only [wE] using h)
  | .comp2 m tg it c tg1 it1 c1 e own own1, st, sl, ps, Q, S, h => pureE hcl S (by simpa only [wE] using h)
  | .dcomp m tg it c kx v own, st, sl, ps, Q, S, h => pureE hcl S (by simpa only [wE] using h)
theorem soundEs (hcl : ClOk cl pcl) (hD : DrOk cl D) : ∀ (es : Es) {st : Store} {sl : Sl} {ps : PSl} {Q : List T → Prop}, SimT n k tv st0 st sl ps → wEs pcl G D tv es ps Q → OkD n (evEs cl G es sl st) st fun ts => Purs ts ∧ Q ts
  | .nil, st, sl, ps, Q, S, h => by unfold evEs; unfold wEs at h; exact S.ret ⟨rfl, h⟩
  | .cons e es, st, sl, ps, Q, S, h => by
    unfold evEs
    unfold wEs at h
    refine (soundE hcl hD e S h).bind S fun t st' S' q => (soundEs hcl hD es S' q.2).bind S' fun ts st'' S'' q' => ?_
    exact S''.ret ⟨purs_app (purs_one q.1) q'.1, q'.2⟩
theorem soundKV (hcl : ClOk cl pcl) (hD : DrOk cl D) : ∀ (es : KVs) {st : Store} {sl : Sl} {ps : PSl} {Q : List (T × T) → Prop}, SimT n k tv st0 st sl ps → wKV pcl G D tv es ps Q → OkD n (evKV cl G es sl st) st fun ts => PurK ts ∧ Q ts
  | .nil, st, sl, ps, Q, S, h => by unfold evKV; unfold wKV at h; exact S.ret ⟨rfl, h⟩
  | .cons a b r, st, sl, ps, Q, S, h => by
    unfold evKV
    unfold wKV at h
    refine (soundE hcl hD a S h).bind S fun t st' S' q => (soundE hcl hD b S' q.2).bind S' fun u st2 S2 q2 => (soundKV hcl hD r S2 q2.2).bind S2 fun ts st'' S'' q' => ?_
    rw [if_pos q'.2.1]
    exact S''.ret ⟨by simp only [PurK, T.limK, Bool.and_eq_true]; exact ⟨⟨q.1, q2.1⟩, q'.1⟩, q'.2.2⟩
theorem soundIt (hcl : ClOk cl pcl) (hD : DrOk cl D) : ∀ (it : It) {st : Store} {sl : Sl} {ps : PSl} {Q : PIt → Prop}, SimT n k tv st0 st sl ps → wIt pcl G D tv it ps Q → OkD n (evIt cl G it sl st) st fun J => ∃ p, (∀ st', RelJ st' J p) ∧ Q p
  | it, st, sl, ps, Q, S, h => by
    have pur : (∃ p, pIt pcl G false it ps = .ok p ∧ Q p) → OkD n (evIt cl G it sl st) st fun J => ∃ p, (∀ st', RelJ st' J p) ∧ Q p := fun h => by
      obtain ⟨p, e1, q⟩ := h
      have h := simItF (G := G) hcl S.cls it S.simK
      rw [e1] at h
      obtain ⟨J, e2, hJ⟩ := h
      rw [e2]
      exact S.ret ⟨p, hJ, q⟩
    cases it with
    | val e =>
      unfold wIt wPt at h
      split at h
      · exact pur h
      · unfold evIt
        refine (soundE hcl hD e S h).bind S fun t st' S' q => ?_
        obtain ⟨ht, xs, e, hq⟩ := q
        refine S'.opt (a := .sq (unC t)) (by unfold itVal; rw [((vA ht).seq e).1]) ⟨.sq xs, fun st2 => relJ_sq (vA ht) e, hq⟩
    | range es =>
      unfold wIt wPt at h
      split at h
      · exact pur h
      · unfold evIt
        refine (soundEs hcl hD es S h).bind S fun ts st' S' q => ?_
        obtain ⟨ht, p, e, hq⟩ := q
        cases eJ : itRange ts with
        | none => rw [eJ] at e; cases e
        | some J => rw [eJ] at e; exact S'.ret ⟨p, fun st2 => relJ_ofI e, hq⟩
    | enum e => unfold wIt at h; exact pur h
    | zip a b => unfold wIt at h; exact pur h
end
end
end PF

end

section
set_option Elab.async false
set_option linter.all false
set_option maxRecDepth 10000
set_option maxHeartbeats 4000000
set_option autoImplicit false
/-! PfG4: .. statements, defs, the law. -/
namespace PF
open PySem
def RelT (n k tv : Nat) (st0 : Store) (r : RS) : PRS → Prop
  | .nx ps => ∃ sl st, r = .nx sl st ∧ SimT n k tv st0 st sl ps
  | .bk ps => ∃ sl st, r = .bk sl st ∧ SimT n k tv st0 st sl ps
  | .ct ps => ∃ sl st, r = .ct sl st ∧ SimT n k tv st0 st sl ps
  | .rt t => ∃ st, r = .rt t st ∧ Pur t ∧ ∃ c, tapeOk c ∧ st.take k = st0.set n c
  | .xc x ps => ∃ sl st, r = .xc x sl st ∧ SimT n k tv st0 st sl ps
  | .stuck => False
def OkT (n k tv : Nat) (st0 : Store) (r : RS) (Q : PRS → Prop) : Prop := ∃ p, RelT n k tv st0 r p ∧ Q p
/-- a statement keeps slot tv -/
def KpT (tv : Nat) (sl : Sl) : RS → Prop
  | .nx sl' _ | .bk sl' _ | .ct sl' _ | .xc _ sl' _ => sl'[tv]? = sl[tv]?
  | _ => True
theorem KpT.thenS {tv : Nat} {sl : Sl} {α : Type} {r : R α} {f : α → Store → RS} (h : ∀ a st, r = .ok a st → KpT tv sl (f a st)) : KpT tv sl (r.thenS sl f) := by
  cases r with
  | ok a st => exact h a st rfl
  | exc x st => exact rfl
  | stuck => exact True.intro
theorem simple_keep {cl : Call} {G : Tab} {tv : Nat} {s : S} (h : simpleS tv s = true) (sl : Sl) (st : Store) : KpT tv sl (evS cl G s sl st) := by
  cases s with
  | asg tg e =>
    unfold evS
    simp only [simpleS, Bool.and_eq_true] at h
    refine KpT.thenS fun a st1 _ => KpT.thenS fun sl' st2 e2 => ?_
    cases e3 : evTg cl G tg a sl st1 with
    | ok sl3 st3 =>
      rw [e3] at e2
      cases e2
      exact evTg_tape tg h.1 e3
    | exc _ _ => rw [e3] at e2; cases e2
    | stuck => rw [e3] at e2; cases e2
  | par i j a b =>
    unfold evS
    simp only [simpleS, Bool.and_eq_true, bne_iff_ne, ne_eq] at h
    refine KpT.thenS fun a st1 _ => KpT.thenS fun b st2 e2 => ?_
    show ((sl.set i (some a)).set j (some b))[tv]? = _
    rw [List.getElem?_set_ne h.1.1.2, List.getElem?_set_ne h.1.1.1]
  | aug i op e =>
    unfold evS
    simp only [simpleS, Bool.and_eq_true, bne_iff_ne, ne_eq] at h
    split
    · refine KpT.thenS fun a st1 _ => ?_
      split
      · refine KpT.thenS fun b st2 _ => ?_
        show (sl.set i (some b))[tv]? = _
        rw [List.getElem?_set_ne h.1]
      · exact True.intro
    · exact True.intro
  | augF o f op e => cases h
  | fz i =>
    unfold evS
    simp only [simpleS, bne_iff_ne, ne_eq] at h
    split
    · split
      · show (sl.set i _)[tv]? = _; rw [List.getElem?_set_ne h]
      · show (sl.set i _)[tv]? = _; rw [List.getElem?_set_ne h]
      · exact True.intro
    · exact True.intro
  | expr e => unfold evS; exact KpT.thenS fun a st1 _ => rfl
  | ret e => unfold evS; exact KpT.thenS fun a st1 _ => True.intro
  | retN => unfold evS; exact True.intro
  | pass => unfold evS; exact rfl
  | brk => unfold evS; exact rfl
  | cnt => unfold evS; exact rfl
  | raise c es => unfold evS; cases es <;> first | exact rfl | exact True.intro
  | ifS _ _ _ => cases h
  | whl _ _ => cases h
  | «for» _ _ _ => cases h
  | tryS _ _ _ _ => cases h
section
variable {n k tv : Nat} {st0 : Store} {cl : Call} {pcl : PCall} {G : Tab} {D : Drs}
theorem OkT.thenS {α : Type} {st : Store} {sl : Sl} {ps : PSl} {r : R α} {f : α → Store → RS} {Q : α → Prop} {Q' : PRS → Prop} (h : OkD n r st Q) (S : SimT n k tv st0 st sl ps) (hk : ∀ a st', SimT n k tv st0 st' sl ps → Q a → OkT n k tv st0 (f a st') Q') : OkT n k tv st0 (r.thenS sl f) Q' := by
  obtain ⟨a, st1, rfl, d, q⟩ := h
  exact hk a st1 (S.draw d) q
theorem simple_ok (hcl : ClOk cl pcl) {s : S} (hs : simpleS tv s = true) {st : Store} {sl : Sl} {ps : PSl} {Q : PRS → Prop} (S : SimT n k tv st0 st sl ps) (h : wOk (pS pcl G s ps) Q) : OkT n k tv st0 (evS cl G s sl st) Q := by
  have h1 := simS (G := G) hcl s S.toN
  have h2 := simS (G := G) hcl s S.toK
  have h3 := simple_keep (cl := cl) (G := G) hs sl st
  have lk : (st.take k).length = k := by rw [List.length_take]; have := S.le; omega
  cases e : pS pcl G s ps with
  | stuck => rw [e] at h; exact h.elim
  | nx ps' =>
    rw [e] at h h1 h2
    obtain ⟨sl1, st1, e1, s1⟩ := h1
    obtain ⟨sl2, st2, e2, s2⟩ := h2
    rw [e1] at e2 h3; cases e2
    exact ⟨.nx _, ⟨sl1, st1, e1, S.next s1 s2 h3⟩, h⟩
  | bk ps' =>
    rw [e] at h h1 h2
    obtain ⟨sl1, st1, e1, s1⟩ := h1
    obtain ⟨sl2, st2, e2, s2⟩ := h2
    rw [e1] at e2 h3; cases e2
    exact ⟨.bk _, ⟨sl1, st1, e1, S.next s1 s2 h3⟩, h⟩
  | ct ps' =>
    rw [e] at h h1 h2
    obtain ⟨sl1, st1, e1, s1⟩ := h1
    obtain ⟨sl2, st2, e2, s2⟩ := h2
    rw [e1] at e2 h3; cases e2
    exact ⟨.ct _, ⟨sl1, st1, e1, S.next s1 s2 h3⟩, h⟩
  | xc x ps' =>
    rw [e] at h h1 h2
    obtain ⟨sl1, st1, e1, _, s1⟩ := h1
    obtain ⟨sl2, st2, e2, _, s2⟩ := h2
    rw [e1] at e2 h3; cases e2
    exact ⟨.xc _ _, ⟨sl1, st1, e1, S.next s1 s2 h3⟩, h⟩
  | rt t =>
    rw [e] at h h2
    obtain ⟨st2, e2, p2, s2⟩ := h2
    rw [lk] at s2
    obtain ⟨c, hc, ec⟩ := S.pre
    exact ⟨.rt _, ⟨st2, e2, p2, c, hc, by rw [s2, ec]⟩, h⟩
theorem soundC (hcl : ClOk cl pcl) (hD : DrOk cl D) {c : E} {st : Store} {sl : Sl} {ps : PSl} {Q : Bool → Prop} (S : SimT n k tv st0 st sl ps) (h : wC pcl G D tv c ps Q) : OkD n ((evE cl G c sl st).bind fun x st => truR st x) st Q := by
  unfold wC at h
  split at h
  · obtain ⟨b, e, q⟩ := h
    have h1 := (simE (G := G) hcl S.cls c S.simK).bind (Rs := fun a b => a = b) (f := fun x st => truR st x) (g := fun x => ptruR x) fun t p (h : RelA st t p) => h.truR
    rw [e] at h1
    obtain ⟨a, e1, rfl⟩ := h1
    rw [e1]
    exact S.ret q
  · refine (soundE hcl hD c S h).bind S fun x st' S' q => ?_
    obtain ⟨hx, b, e, hz⟩ := q
    rw [tru_v hx e]
    exact S'.ret hz
theorem forT {J : Itv} {p : PIt} (hJ : ∀ st', RelJ st' J p) {body : T → Sl → Store → RS} {I : List T → PSl → Prop} {Q : PRS → Prop}
    (hb : ∀ x xs, Pur x → ∀ st sl ps, SimT n k tv st0 st sl ps → I (x :: xs) ps → OkT n k tv st0 (body x sl st) fun r => match r with
        | .nx p => I xs p
        | .ct p => I xs p
        | .bk p => Q (.nx p)
        | r => Q r) (hn : ∀ ps, I [] ps → Q (.nx ps)) :
    ∀ (m i : Nat) (st : Store) (sl : Sl) (ps : PSl), i + m = p.len → I (p.items.drop i) ps → SimT n k tv st0 st sl ps → OkT n k tv st0 (forL J body m i sl st) Q
  | 0, i, st, sl, ps, e, hI, S => by
    unfold forL
    rw [if_pos (by rw [(hJ st).1]; congr 1; omega)]
    rw [List.drop_of_length_le (by rw [p.items_len]; omega)] at hI
    exact ⟨.nx _, ⟨sl, st, rfl, S⟩, hn ps hI⟩
  | m + 1, i, st, sl, ps, e, hI, S => by
    obtain ⟨x, h1, h2⟩ := drop_at (l := p.items) (i := i) (n := m) (by rw [p.items_len]; exact e)
    rw [p.items_get] at h1
    obtain ⟨g, kx⟩ := (hJ st).2 i x h1
    rw [h2] at hI
    unfold forL
    rw [g]
    dsimp only
    obtain ⟨r, hr, q⟩ := hb x _ kx st sl ps S hI
    cases r with
    | nx ps' => obtain ⟨sl', st', e1, S'⟩ := hr; rw [e1]; exact forT hJ hb hn m (i + 1) st' sl' ps' (by omega) q S'
    | ct ps' => obtain ⟨sl', st', e1, S'⟩ := hr; rw [e1]; exact forT hJ hb hn m (i + 1) st' sl' ps' (by omega) q S'
    | bk ps' => obtain ⟨sl', st', e1, S'⟩ := hr; rw [e1]; exact ⟨.nx _, ⟨sl', st', rfl, S'⟩, q⟩
    | rt t => obtain ⟨st', e1, q'⟩ := hr; rw [e1]; exact ⟨.rt _, ⟨st', rfl, q'⟩, q⟩
    | xc x ps' => obtain ⟨sl', st', e1, S'⟩ := hr; rw [e1]; exact ⟨.xc _ _, ⟨sl', st', rfl, S'⟩, q⟩
    | stuck => exact hr.elim
mutual
theorem soundS (hcl : ClOk cl pcl) (hD : DrOk cl D) : ∀ (s : S) {st : Store} {sl : Sl} {ps : PSl} {Q : PRS → Prop}, SimT n k tv st0 st sl ps → wS pcl G D tv s ps Q → OkT n k tv st0 (evS cl G s sl st) Q
  | .asg tg e, st, sl, ps, Q, S, h => by
    unfold wS at h
    split at h
    · rename_i hs; exact simple_ok hcl hs S h
    · unfold evS
      cases tg with
      | nm i =>
        dsimp only at h
        refine OkT.thenS (soundE hcl hD e S h.2) S fun t st' S' q => ?_
        have hk : kTg tv (.nm i) = true := by simp only [kTg, bne_iff_ne, ne_eq]; exact h.1
        obtain ⟨sl', e1, S2⟩ := S'.tg (G := G) hcl (tg := .nm i) hk q.1 (ps' := ps.set i (some (.v t))) (by simp only [pTg])
        rw [e1]
        exact ⟨.nx _, ⟨sl', st', rfl, S2⟩, q.2⟩
      | tup ts =>
        dsimp only at h
        refine OkT.thenS (soundE hcl hD e S h.2) S fun t st' S' q => ?_
        obtain ⟨ht, ps', e0, hq⟩ := q
        obtain ⟨sl', e1, S2⟩ := S'.tg (G := G) hcl (tg := .tup ts) (by unfold kTg; exact h.1) ht e0
        rw [e1]
        exact ⟨.nx _, ⟨sl', st', rfl, S2⟩, hq⟩
      | _ => exact h.elim
  | .expr e, st, sl, ps, Q, S, h => by
    unfold wS at h
    split at h
    · rename_i hs; exact simple_ok hcl hs S h
    · split at h
      · rename_i i a _
        obtain ⟨hi, xs, hp, hl, h⟩ := h
        obtain ⟨t0, et, r0, _⟩ := S.simK.at_ i _ hp
        obtain ⟨m, rfl, g, px⟩ := r0
        unfold evS evE evE
        rw [et]
        dsimp only
        rw [R.bind_ok]
        have hok : mOk .append (.ref m) st = true := by simp only [mOk, lstOf, g, Option.isSome]
        rw [if_pos hok]
        unfold evEs evEs
        have q1 : OkD n ((evE cl G a sl st).bind fun t st => (R.ok [] st).bind fun ts st => R.ok (t :: ts) st) st fun ts => ∃ t, ts = [t] ∧ Pur t ∧ Q (.nx (ps.set i (some (.l (xs ++ [t]))))) :=
          (soundE hcl hD a S h).bind S fun t st' S' q => S'.ret ⟨t, rfl, q⟩
        obtain ⟨ts, st1, e1, d, t, rfl, ht, hq⟩ := q1
        rw [e1, R.bind_ok]
        have S1 := S.draw d
        obtain ⟨t1, et1, r1, _⟩ := S1.simK.at_ i _ hp
        rw [et] at et1; cases et1
        obtain ⟨m', e', g1, _⟩ := r1
        cases e'
        have hm : mfn .append (.ref m) [t] st1 = .ok .non (st1.set m (.lst (xs ++ [t]))) := by simp only [mfn, mAppend, g1]; rw [if_pos hl]
        rw [hm]
        have hc : (PC.l (xs ++ [t])).cell = some (.lst (xs ++ [t])) := by simp only [PC.cell]; rw [if_pos (purs_app px (purs_one ht))]
        have w1 := S1.toN.write hp rfl et hc
        have w2 := S1.toK.write hp rfl et hc
        exact ⟨.nx _, ⟨sl, _, rfl, S1.next w1 w2 rfl⟩, hq⟩
      · unfold evS
        exact OkT.thenS (soundE hcl hD e S h) S fun t st' S' q => ⟨.nx _, ⟨sl, st', rfl, S'⟩, q.2⟩
  | .ret e, st, sl, ps, Q, S, h => by
    unfold wS at h
    split at h
    · rename_i hs; exact simple_ok hcl hs S h
    · unfold evS
      exact OkT.thenS (soundE hcl hD e S h) S fun t st' S' q => ⟨.rt _, ⟨st', rfl, q.1, S'.pre⟩, q.2⟩
  | .ifS c a b, st, sl, ps, Q, S, h => by
    unfold wS at h
    unfold evS
    refine OkT.thenS (soundC hcl hD S h) S fun kk st' S' q => ?_
    cases kk with
    | true => exact soundSs hcl hD a S' (by simpa using q)
    | false => exact soundSs hcl hD b S' (by simpa using q)
  | .for tg it b, st, sl, ps, Q, S, h => by
    unfold wS at h
    obtain ⟨hk, h⟩ := h
    unfold evS
    refine OkT.thenS (soundIt hcl hD it S h) S fun J st' S' q => ?_
    obtain ⟨p, hJ, I, h0, hstep, hn⟩ := q
    rw [(hJ st').1]
    refine forT hJ (I := I) (fun x xs px st1 sl1 ps1 S1 hI => ?_) hn p.len 0 st' sl ps (Nat.zero_add _) (by rw [List.drop_zero]; exact h0) S'
    obtain ⟨ps2, e1, hw⟩ := hstep x xs ps1 hI
    obtain ⟨sl2, e2, S2⟩ := S1.tg (G := G) hcl hk px e1
    rw [e2, R.noExc_ok, R.thenS_ok]
    exact soundSs hcl hD b S2 hw
  | .tryS b c as h1, st, sl, ps, Q, S, h => by
    unfold wS at h
    obtain ⟨ha, h⟩ := h
    unfold evS
    obtain ⟨r, hr, q⟩ := soundSs hcl hD b S h
    cases r with
    | nx ps' => obtain ⟨sl', st', e1, S'⟩ := hr; rw [e1]; exact ⟨.nx _, ⟨sl', st', rfl, S'⟩, q⟩
    | ct ps' => obtain ⟨sl', st', e1, S'⟩ := hr; rw [e1]; exact ⟨.ct _, ⟨sl', st', rfl, S'⟩, q⟩
    | bk ps' => obtain ⟨sl', st', e1, S'⟩ := hr; rw [e1]; exact ⟨.bk _, ⟨sl', st', rfl, S'⟩, q⟩
    | rt t => obtain ⟨st', e1, q'⟩ := hr; rw [e1]; exact ⟨.rt _, ⟨st', rfl, q'⟩, q⟩
    | stuck => exact hr.elim
    | xc x ps' =>
      obtain ⟨sl', st', e1, S'⟩ := hr
      rw [e1]
      dsimp only
      rw [if_pos ⟨q.1, ha⟩]
      obtain ⟨r2, hr2, q2⟩ := soundSs hcl hD h1 S' q.2
      cases r2 with
      | nx ps' => obtain ⟨sl', st', e1, S'⟩ := hr2; rw [e1]; exact ⟨.nx _, ⟨sl', st', rfl, S'⟩, q2⟩
      | ct ps' => obtain ⟨sl', st', e1, S'⟩ := hr2; rw [e1]; exact ⟨.ct _, ⟨sl', st', rfl, S'⟩, q2⟩
      | bk ps' => obtain ⟨sl', st', e1, S'⟩ := hr2; rw [e1]; exact ⟨.bk _, ⟨sl', st', rfl, S'⟩, q2⟩
      | rt t => obtain ⟨st', e1, q'⟩ := hr2; rw [e1]; exact ⟨.rt _, ⟨st', rfl, q'⟩, q2⟩
      | stuck => exact hr2.elim
      | xc x ps' => exact q2.elim
  | .whl _ _, st, sl, ps, Q, S, h => by unfold wS at h; exact h.elim
  | .par i j a b, st, sl, ps, Q, S, h => by
    unfold wS at h
    split at h
    · rename_i hs; exact simple_ok hcl hs S h
    · unfold evS
      obtain ⟨hi, hj, h⟩ := h
      refine OkT.thenS (soundE hcl hD a S h) S fun t st' S' q => OkT.thenS (soundE hcl hD b S' q.2) S' fun u st2 S2 q2 => ?_
      have k1 : kTg tv (.nm i) = true := by simp only [kTg, bne_iff_ne, ne_eq]; exact hi
      have k2 : kTg tv (.nm j) = true := by simp only [kTg, bne_iff_ne, ne_eq]; exact hj
      obtain ⟨sl1, e1, S3⟩ := S2.tg (G := G) hcl (tg := .nm i) k1 q.1 (ps' := ps.set i (some (.v t))) (by simp only [pTg])
      obtain ⟨sl2, e2, S4⟩ := S3.tg (G := G) hcl (tg := .nm j) k2 q2.1 (ps' := (ps.set i (some (.v t))).set j (some (.v u))) (by simp only [pTg])
      unfold evTg at e1 e2
      cases e1
      cases e2
      exact ⟨.nx _, ⟨_, st2, rfl, S4⟩, q2.2⟩
  | .aug i op e, st, sl, ps, Q, S, h => by simp only [wS] at h; exact simple_ok hcl h.1 S h.2
  | .augF i op e _, st, sl, ps, Q, S, h => by simp only [wS] at h; exact simple_ok hcl h.1 S h.2
  | .fz i, st, sl, ps, Q, S, h => by simp only [wS] at h; exact simple_ok hcl h.1 S h.2
  | .retN, st, sl, ps, Q, S, h => by simp only [wS] at h; exact simple_ok hcl h.1 S h.2
  | .pass, st, sl, ps, Q, S, h => by simp only [wS] at h; exact simple_ok hcl h.1 S h.2
  | .brk, st, sl, ps, Q, S, h => by simp only [wS] at h; exact simple_ok hcl h.1 S h.2
  | .cnt, st, sl, ps, Q, S, h => by simp only [wS] at h; exact simple_ok hcl h.1 S h.2
  | .raise _ _, st, sl, ps, Q, S, h => by simp only [wS] at h; exact simple_ok hcl h.1 S h.2
theorem soundSs (hcl : ClOk cl pcl) (hD : DrOk cl D) : ∀ (ss : Ss) {st : Store} {sl : Sl} {ps : PSl} {Q : PRS → Prop}, SimT n k tv st0 st sl ps → wSs pcl G D tv ss ps Q → OkT n k tv st0 (evSs cl G ss sl st) Q
  | .nil, st, sl, ps, Q, S, h => by unfold evSs; unfold wSs at h; exact ⟨.nx _, ⟨sl, st, rfl, S⟩, h⟩
  | .cons s ss, st, sl, ps, Q, S, h => by
    unfold evSs
    unfold wSs at h
    obtain ⟨r, hr, q⟩ := soundS hcl hD s S h
    cases r with
    | nx ps' => obtain ⟨sl', st', e1, S'⟩ := hr; rw [e1]; exact soundSs hcl hD ss S' q
    | ct ps' => obtain ⟨sl', st', e1, S'⟩ := hr; rw [e1]; exact ⟨.ct _, ⟨sl', st', rfl, S'⟩, q⟩
    | bk ps' => obtain ⟨sl', st', e1, S'⟩ := hr; rw [e1]; exact ⟨.bk _, ⟨sl', st', rfl, S'⟩, q⟩
    | rt t => obtain ⟨st', e1, q'⟩ := hr; rw [e1]; exact ⟨.rt _, ⟨st', rfl, q'⟩, q⟩
    | xc x ps' => obtain ⟨sl', st', e1, S'⟩ := hr; rw [e1]; exact ⟨.xc _ _, ⟨sl', st', rfl, S'⟩, q⟩
    | stuck => exact hr.elim
end
end
/-- what a def ends with -/
def wFin (Q : T → Prop) : PRS → Prop
  | .nx _ => Q .non
  | .rt t => Q t
  | _ => False
theorem sim_vals (m : Nat) (st : Store) (a : Sl) : ∀ (ts : List T) (j : Nat), Purs ts → Sim m st (none :: (ts.map some ++ List.replicate j none)) (none :: (ts.map (fun t => some (.v t)) ++ List.replicate j none)) := by
  intro ts j hp
  have key : ∀ (i : Nat) (p : PC), (none :: (ts.map (fun t => some (PC.v t)) ++ List.replicate j none))[i]? = some (some p) → ∃ t, p = .v t ∧ Pur t ∧ (none :: (ts.map some ++ List.replicate j none))[i]? = some (some t) := by
    intro i p e
    cases i with
    | zero => cases e
    | succ i =>
      rw [List.getElem?_cons_succ] at e ⊢
      by_cases h : i < ts.length
      · rw [List.getElem?_append_left (by rw [List.length_map]; exact h), List.getElem?_map] at e
        rw [List.getElem?_append_left (by rw [List.length_map]; exact h), List.getElem?_map]
        rw [List.getElem?_eq_getElem h] at e ⊢
        cases e
        exact ⟨_, rfl, lims_iff.mp hp _ (List.getElem_mem h), rfl⟩
      · rw [List.getElem?_append_right (by rw [List.length_map]; omega)] at e
        have := List.mem_of_getElem? e
        rw [List.mem_replicate] at this
        cases this.2
  refine ⟨by simp, fun i p e => ?_, fun i i' p q t e e' o o' _ _ => ?_⟩
  · obtain ⟨t, rfl, ht, e1⟩ := key i p e
    exact ⟨t, e1, ⟨rfl, ht⟩, fun n en => by subst en; exact ht.noref.elim⟩
  · obtain ⟨t, rfl, _⟩ := key i p e
    cases o
/-- a drawing def's slots at the start -/
def dSl (ts : List T) (j : Nat) : PSl := none :: (ts.map (fun t => some (.v t)) ++ List.replicate j none)
theorem Sim.tape0 {m : Nat} {st : Store} {sl : Sl} {ps : PSl} {t : T} (h : Sim m st (none :: sl) (none :: ps)) : Sim m st (some t :: sl) (none :: ps) := by
  refine ⟨h.len, fun i p e => ?_, fun i i' p q u e e' o o' f f' => ?_⟩
  · cases i with
    | zero => cases e
    | succ i => exact h.at_ (i + 1) p e
  · cases i with
    | zero => cases e
    | succ i => cases i' with
      | zero => cases e'
      | succ i' => exact h.inj (i + 1) (i' + 1) p q u e e' o o' f f'
theorem take_self {st : Store} : st.take st.length = st := List.take_length
theorem draw_fn {fns : List Fn} {G : Tab} {N f a s : Nat} {F : Fn} {b : Ss} {D : Drs} (h : fns[f]? = some F) (hF : IsFn F (a + 1) s b) (hD : DrOk (run fns G N) D) :
    DrOk (run fns G (N + 1)) fun g ts Q => g = f ∧ ts.length = a ∧ wSs (prun fns G N) G D 0 b (dSl ts (s - (a + 1))) (wFin Q) := by
  rintro g ts Q hp ⟨hgf, hl, hw⟩ n st c hst hc hg
  subst hgf
  have hn := lt_of_get hg
  have S : SimT n st.length 0 st st (some (.ref n) :: (ts.map some ++ List.replicate (s - (a + 1)) none)) (dSl ts (s - (a + 1))) := by
    refine ⟨hn, rfl, (sim_vals n st [] ts _ hp).tape0, (sim_vals st.length st [] ts _ hp).tape0, hst, Nat.le_refl _, ⟨c, hc, ?_⟩, rfl⟩
    rw [take_self]
    apply List.ext_getElem?
    intro i
    rw [List.getElem?_set]
    split
    · rename_i h; subst h; exact hg
    · rfl
  obtain ⟨r, hr, q⟩ := soundSs (G := G) (run_pure fns G N) hD b S hw
  have hk : run fns G (N + 1) g (.ref n :: ts) st = gc st.length (evSs (run fns G N) G b (some (.ref n) :: (ts.map some ++ List.replicate (s - (a + 1)) none)) st).toR :=
    run_gc h hF (by rw [List.length_cons, hl])
  have fin : ∀ {t : T} {st' : Store} {c' : Cell}, Pur t → tapeOk c' → st'.take st.length = st.set n c' → gc st.length (.ok t st') = .ok t (st.set n c') := fun {t st' c'} ht hc' e => by
    have e2 := gc_keep (st := st.set n c') (st' := st') (hst.set (hc'.lim _)) ht (by rw [List.length_set]; exact e)
    rw [List.length_set] at e2
    exact e2
  rw [hk]
  cases r with
  | nx ps' =>
    obtain ⟨sl', st', e1, S'⟩ := hr
    obtain ⟨c', hc', e2⟩ := S'.pre
    rw [e1]
    exact ⟨.non, c', hc', fin rfl hc' e2, rfl, q⟩
  | rt t =>
    obtain ⟨st', e1, ht, c', hc', e2⟩ := hr
    rw [e1]
    exact ⟨t, c', hc', fin ht hc' e2, ht, q⟩
  | _ => exact q.elim
/-- the law: the tape first -/
theorem law_fn {fns : List Fn} {G : Tab} {N f ft s : Nat} {F Ft : Fn} {b : Ss} {D : Drs} (h : fns[f]? = some F) (hF : IsFn F 1 (s + 2) (.cons (.asg (.nm 1) (.call ft (.cons (.var 0) .nil))) b)) (hft : fns[ft]? = some Ft) (hFt : IsFn Ft 1 4 bTape) (hD : DrOk (run fns G (N + 1)) D)
    (ns : List Int) (hn : ns.length ≤ 63) (hw : wSs (prun fns G (N + 1)) G D 1 b (some (.v (.rol (ns.map .int))) :: none :: List.replicate s none) (wFin fun t => t = .bl true)) : ∃ st, run fns G (N + 2) f [.rol (ns.map .int)] [] = .ok (.bl true) st := by
  obtain ⟨c, hc, ht⟩ := tape_spec (G := G) (N := N) hft hFt ns hn
  rw [run_gc (N := N + 1) h hF rfl]
  have e : ([T.rol (ns.map .int)].map some ++ List.replicate (s + 2 - 1) none : Sl) = some (.rol (ns.map .int)) :: none :: List.replicate s none := rfl
  rw [e, Ss_cons]
  have e1 : evS (run fns G (N + 1)) G (.asg (.nm 1) (.call ft (.cons (.var 0) .nil))) (some (.rol (ns.map .int)) :: none :: List.replicate s none) [] = .nx (some (.rol (ns.map .int)) :: some (.ref 0) :: List.replicate s none) [c] := by
    simp only [evS, evE, evEs, evTg, List.getElem?_cons_zero, R.bind_ok, ht, R.thenS_ok, R.noExc_ok, List.set_cons_succ, List.set_cons_zero]
  rw [e1, Q_nx]
  have hv : ∀ m, Sim m [c] (some (.rol (ns.map .int)) :: some (.ref 0) :: List.replicate s none) (some (.v (.rol (ns.map .int))) :: none :: List.replicate s none) := fun m => by
    have key : ∀ (i : Nat) (p : PC), (some (PC.v (.rol (ns.map .int))) :: none :: List.replicate s none)[i]? = some (some p) → i = 0 ∧ p = .v (.rol (ns.map .int)) := fun i p e => by
      match i, e with
      | 0, e => cases e; exact ⟨rfl, rfl⟩
      | 1, e => cases e
      | i + 2, e =>
        have := List.mem_of_getElem? (l := List.replicate s none) (i := i) e
        rw [List.mem_replicate] at this
        cases this.2
    refine ⟨by simp, fun i p e => ?_, fun i i' p q t e e' o o' _ _ => ?_⟩
    · obtain ⟨rfl, rfl⟩ := key i p e
      exact ⟨_, rfl, ⟨rfl, pur_rol.mpr (lims_map_int0 _)⟩, fun n en => by cases en⟩
    · obtain ⟨rfl, rfl⟩ := key i p e
      cases o
  have S : SimT 0 1 1 [c] [c] (some (.rol (ns.map .int)) :: some (.ref 0) :: List.replicate s none) (some (.v (.rol (ns.map .int))) :: none :: List.replicate s none) :=
    ⟨by omega, rfl, hv 0, hv 1, fun d hd => by rw [List.mem_singleton.mp hd]; exact hc.lim _, Nat.le_refl _, ⟨c, hc, rfl⟩, rfl⟩
  obtain ⟨r, hr, q⟩ := soundSs (G := G) (run_pure fns G (N + 1)) hD b S hw
  cases r with
  | nx ps' => cases q
  | rt t =>
    obtain ⟨st', e2, _⟩ := hr
    rw [e2, q, s_toR]
    simp only [gc, T.lim, if_true]
    split
    · exact ⟨_, rfl⟩
    · exact ⟨_, rfl⟩
  | _ => exact q.elim
end PF

end

section
set_option Elab.async false
set_option linter.all false
set_option maxRecDepth 10000
set_option maxHeartbeats 4000000
set_option autoImplicit false
/-! PfG5: steps of drawing runs. -/
namespace PF
open PySem
section
variable {pcl : PCall} {G : Tab} {D : Drs} {tv : Nat} {ps : PSl} {Q : T → Prop} {P : PRS → Prop}
theorem w_val {e : E} {t : T} (hf : fE tv e = true) (h : pE pcl G e ps = .ok (.v t)) (q : Q t) : wE pcl G D tv e ps Q := by
  cases e <;> unfold wE <;> first | exact ⟨t, h, q⟩ | (unfold wP; rw [if_pos hf]; exact ⟨t, h, q⟩)
theorem w_bin {op : Operator} {a b : E} (hf : fE tv (.bin op a b) = false) (h : wE pcl G D tv a ps fun x => wE pcl G D tv b ps fun y => ∃ z, pbin op (.v x) (.v y) = .ok (.v z) ∧ Q z) : wE pcl G D tv (.bin op a b) ps Q := by
  unfold wE wP; rw [if_neg (by rw [hf]; decide)]; exact h
theorem w_cmp {op : CmpOp} {a b : E} (hf : fE tv (.cmp op a b) = false) (h : wE pcl G D tv a ps fun x => wE pcl G D tv b ps fun y => ∃ k, pcmp op (.v x) (.v y) = some k ∧ Q (.bl k)) : wE pcl G D tv (.cmp op a b) ps Q := by
  unfold wE wP; rw [if_neg (by rw [hf]; decide)]; exact h
theorem w_ix {a b : E} (hf : fE tv (.ix a b) = false) (h : wE pcl G D tv a ps fun x => wE pcl G D tv b ps fun y => ∃ z, pix (.v x) (.v y) = some z ∧ Q z) : wE pcl G D tv (.ix a b) ps Q := by
  unfold wE wP; rw [if_neg (by rw [hf]; decide)]; exact h
theorem w_neg {a : E} (hf : fE tv (.neg a) = false) (h : wE pcl G D tv a ps fun x => ∃ i, x = .int i ∧ Q (.int (-i))) : wE pcl G D tv (.neg a) ps Q := by
  unfold wE wP; rw [if_neg (by rw [hf]; decide)]; exact h
theorem w_not {a : E} (hf : fE tv (.not a) = false) (h : wE pcl G D tv a ps fun x => ∃ k, ptru (.v x) = some k ∧ Q (.bl !k)) : wE pcl G D tv (.not a) ps Q := by
  unfold wE wP; rw [if_neg (by rw [hf]; decide)]; exact h
theorem w_andE {a b : E} (hf : fE tv (.and a b) = false) (h : wE pcl G D tv a ps fun x => ∃ k, ptru (.v x) = some k ∧ if k then wE pcl G D tv b ps Q else Q x) : wE pcl G D tv (.and a b) ps Q := by
  unfold wE wP; rw [if_neg (by rw [hf]; decide)]; exact h
theorem w_orE {a b : E} (hf : fE tv (.or a b) = false) (h : wE pcl G D tv a ps fun x => ∃ k, ptru (.v x) = some k ∧ if k then Q x else wE pcl G D tv b ps Q) : wE pcl G D tv (.or a b) ps Q := by
  unfold wE wP; rw [if_neg (by rw [hf]; decide)]; exact h
theorem w_ite {c a b : E} (hf : fE tv (.ite c a b) = false) (h : wE pcl G D tv c ps fun x => ∃ k, ptru (.v x) = some k ∧ if k then wE pcl G D tv a ps Q else wE pcl G D tv b ps Q) : wE pcl G D tv (.ite c a b) ps Q := by
  unfold wE wP; rw [if_neg (by rw [hf]; decide)]; exact h
theorem w_tupE {es : Es} (hf : fE tv (.tup es) = false) (h : wEs pcl G D tv es ps fun ts => ts.length ≤ sizeLine ∧ Q (.tup ts)) : wE pcl G D tv (.tup es) ps Q := by
  unfold wE wP; rw [if_neg (by rw [hf]; decide)]; exact h
theorem w_lstE {es : Es} (hf : fE tv (.lst false es) = false) (h : wEs pcl G D tv es ps fun ts => ts.length ≤ sizeLine ∧ Q (.rol ts)) : wE pcl G D tv (.lst false es) ps Q := by
  unfold wE wP; rw [if_neg (by rw [hf]; decide)]; exact ⟨rfl, h⟩
theorem w_bcall {b : B} {es : Es} (hf : fE tv (.bcall b es) = false) (h : wEs pcl G D tv es ps fun ts => ∃ z, pbfn b (ts.map .v) = .ok (.v z) ∧ Q z) : wE pcl G D tv (.bcall b es) ps Q := by
  unfold wE wP; rw [if_neg (by rw [hf]; decide)]; exact h
theorem w_call {f v : Nat} {es : Es} (hv : v ≠ tv) (hf : fE tv (.call f (.cons (.var v) es)) = false) (h : wE pcl G D tv (.var v) ps fun t => wEs pcl G D tv es ps fun ts => ∃ z, pcl f ((t :: ts).map .v) = .ok z ∧ Q z) : wE pcl G D tv (.call f (.cons (.var v) es)) ps Q := by
  unfold wE wP; rw [if_neg (by rw [hf]; decide)]; exact .inr ⟨hv, h⟩
theorem w_callE {f : Nat} {e : E} {es : Es} (hv : ∀ v, e ≠ .var v) (hf : fE tv (.call f (.cons e es)) = false) (h : wE pcl G D tv e ps fun t => wEs pcl G D tv es ps fun ts => ∃ z, pcl f ((t :: ts).map .v) = .ok z ∧ Q z) : wE pcl G D tv (.call f (.cons e es)) ps Q := by
  unfold wE wP; rw [if_neg (by rw [hf]; decide)]
  cases e <;> first | exact h | exact absurd rfl (hv _)
theorem w_draw {f : Nat} {es : Es} (h : wEs pcl G D tv es ps fun ts => D f ts Q) : wE pcl G D tv (.call f (.cons (.var tv) es)) ps Q := by
  unfold wE wP; rw [if_neg (by simp [fE, fEs])]; exact .inl ⟨rfl, h⟩
theorem w_nil {R : List T → Prop} (h : R []) : wEs pcl G D tv .nil ps R := by unfold wEs; exact h
theorem w_cons {e : E} {es : Es} {R : List T → Prop} (h : wE pcl G D tv e ps fun t => wEs pcl G D tv es ps fun ts => R (t :: ts)) : wEs pcl G D tv (.cons e es) ps R := by unfold wEs; exact h
/-- a drawn number below m -/
theorem w_take {f : Nat} {m : Int} (hD : ∀ ts R, dTake f f ts R → D f ts R) (h0 : 0 < m) (h1 : m < 1073741824) (h : ∀ i, 0 ≤ i → i < m → Q (.int i)) : wE pcl G D tv (.call f (.cons (.var tv) (.cons (.cst (.int m)) .nil))) ps Q :=
  w_draw (w_cons (w_val rfl (by simp only [pE, T.lim, if_true]) (w_nil (hD _ _ ⟨rfl, m, rfl, h0, h1, h⟩))))
theorem w_comp {tg : Tg} {it : It} {e : E} {own : List Nat} {J : PIt} (R : T → T → Prop) (hf : fE tv (.comp false tg it .none e own) = false) (hi : fIt tv it = true) (hJ : pIt pcl G false it ps = .ok J) (hl : J.len ≤ sizeLine) (ho : own.contains tv = false) (hk : kTg tv tg = true)
    (hb : ∀ x ∈ J.items, ∃ ps', pTg pcl G tg x (pwipe ps own) = .ok ps' ∧ wE pcl G D tv e ps' (R x)) (hq : ∀ ys, All2 R J.items ys → Q (.rol ys)) : wE pcl G D tv (.comp false tg it .none e own) ps Q := by
  unfold wE wP; rw [if_neg (by rw [hf]; decide)]
  refine ⟨rfl, rfl, ?_⟩
  have fin : ∃ p, pIt pcl G false it ps = .ok p ∧ ∃ R : T → T → Prop, p.len ≤ sizeLine ∧ (∀ x ∈ p.items, ∃ ps', pTg pcl G tg x (pwipe ps own) = .ok ps' ∧ own.contains tv = false ∧ kTg tv tg = true ∧ wE pcl G D tv e ps' (R x)) ∧ ∀ ys, All2 R p.items ys → Q (.rol ys) :=
    ⟨J, hJ, R, hl, fun x hx => by obtain ⟨ps', h1, h2⟩ := hb x hx; exact ⟨ps', h1, ho, hk, h2⟩, hq⟩
  cases it <;> unfold wIt <;> first | exact fin | (unfold wPt; rw [if_pos hi]; exact fin)
theorem w_for {tg : Tg} {it : It} {b : Ss} {J : PIt} (I : List T → PSl → Prop) (hk : kTg tv tg = true) (hi : fIt tv it = true) (hJ : pIt pcl G false it ps = .ok J) (h0 : I J.items ps)
    (hs : ∀ x xs ps, I (x :: xs) ps → ∃ ps', pTg pcl G tg x ps = .ok ps' ∧ wSs pcl G D tv b ps' fun r => match r with
        | .nx p => I xs p
        | .ct p => I xs p
        | .bk p => P (.nx p)
        | r => P r) (hn : ∀ ps, I [] ps → P (.nx ps)) : wS pcl G D tv (.for tg it b) ps P := by
  unfold wS
  refine ⟨hk, ?_⟩
  cases it <;> unfold wIt <;> first | exact ⟨J, hJ, I, h0, hs, hn⟩ | (unfold wPt; rw [if_pos hi]; exact ⟨J, hJ, I, h0, hs, hn⟩)
/-- a loop over a drawn number of turns -/
theorem w_forR {tg : Tg} {es : Es} {b : Ss} (hk : kTg tv tg = true) (hi : fIt tv (.range es) = false)
    (h : wEs pcl G D tv es ps fun ts => ∃ J, (itRange ts).bind PIt.ofI = some J ∧ ∃ I : List T → PSl → Prop, I J.items ps ∧ (∀ x xs ps, I (x :: xs) ps → ∃ ps', pTg pcl G tg x ps = .ok ps' ∧ wSs pcl G D tv b ps' fun r => match r with
        | .nx p => I xs p
        | .ct p => I xs p
        | .bk p => P (.nx p)
        | r => P r) ∧ ∀ ps, I [] ps → P (.nx ps)) : wS pcl G D tv (.for tg (.range es) b) ps P := by
  unfold wS
  refine ⟨hk, ?_⟩
  unfold wIt wPt; rw [if_neg (by rw [hi]; decide)]; exact h
theorem w_st {s : S} {ss : Ss} (h : wS pcl G D tv s ps fun r => match r with
    | .nx p => wSs pcl G D tv ss p P
    | r => P r) : wSs pcl G D tv (.cons s ss) ps P := by unfold wSs; exact h
theorem w_end (h : P (.nx ps)) : wSs pcl G D tv .nil ps P := by unfold wSs; exact h
theorem w_simple {s : S} {r : PRS} (hs : simpleS tv s = true) (e : pS pcl G s ps = r) (h : wOk r P) : wS pcl G D tv s ps P := by
  subst e
  cases s <;> first | (cases hs; done) | skip
  all_goals unfold wS
  all_goals first | (rw [if_pos hs]; exact h) | exact ⟨hs, h⟩
theorem ok_nx {sl : PSl} (h : P (.nx sl)) : wOk (.nx sl) P := h
theorem ok_rt {t : T} (h : P (.rt t)) : wOk (.rt t) P := h
theorem ok_xc {x : Ex} {sl : PSl} (h : P (.xc x sl)) : wOk (.xc x sl) P := h
/-- a draw-free statement, and on -/
theorem w_step {s : S} {ss : Ss} {sl : PSl} (hs : simpleS tv s = true) (e : pS pcl G s ps = .nx sl) (h : wSs pcl G D tv ss sl P) : wSs pcl G D tv (.cons s ss) ps P := w_st (w_simple hs e h)
theorem w_asg {i : Nat} {e : E} (hs : simpleS tv (.asg (.nm i) e) = false) (hi : i ≠ tv) (h : wE pcl G D tv e ps fun t => P (.nx (ps.set i (some (.v t))))) : wS pcl G D tv (.asg (.nm i) e) ps P := by
  unfold wS; rw [if_neg (by rw [hs]; decide)]; exact ⟨hi, h⟩
theorem w_asgT {ts : Tgs} {e : E} (hs : simpleS tv (.asg (.tup ts) e) = false) (hi : kTgs tv ts = true) (h : wE pcl G D tv e ps fun t => ∃ ps', pTg pcl G (.tup ts) t ps = .ok ps' ∧ P (.nx ps')) : wS pcl G D tv (.asg (.tup ts) e) ps P := by
  unfold wS; rw [if_neg (by rw [hs]; decide)]; exact ⟨hi, h⟩
theorem w_par {i j : Nat} {a b : E} (hs : simpleS tv (.par i j a b) = false) (hi : i ≠ tv) (hj : j ≠ tv) (h : wE pcl G D tv a ps fun x => wE pcl G D tv b ps fun y => P (.nx ((ps.set i (some (.v x))).set j (some (.v y))))) : wS pcl G D tv (.par i j a b) ps P := by
  unfold wS; rw [if_neg (by rw [hs]; decide)]; exact ⟨hi, hj, h⟩
theorem w_dct {kvs : KVs} (hf : fE tv (.dct false kvs) = false) (h : wKV pcl G D tv kvs ps fun kvs => kvs.length ≤ 15 ∧ Q (.rod (kvs.foldl (fun acc p => dPut p.1 p.2 acc) []))) : wE pcl G D tv (.dct false kvs) ps Q := by
  unfold wE wP; rw [if_neg (by rw [hf]; decide)]; exact ⟨rfl, h⟩
theorem w_kv0 {R : List (T × T) → Prop} (h : R []) : wKV pcl G D tv .nil ps R := by unfold wKV; exact h
theorem w_kv {a b : E} {r : KVs} {R : List (T × T) → Prop} (h : wE pcl G D tv a ps fun x => wE pcl G D tv b ps fun y => wKV pcl G D tv r ps fun r => isKey x = true ∧ R ((x, y) :: r)) : wKV pcl G D tv (.cons a b r) ps R := by unfold wKV; exact h
theorem w_app {i : Nat} {a : E} {xs : List T} (hs : fE tv a = false) (hi : i ≠ tv) (hp : ps[i]? = some (some (.l xs))) (hl : xs.length < sizeLine) (h : wE pcl G D tv a ps fun t => P (.nx (ps.set i (some (.l (xs ++ [t])))))) : wS pcl G D tv (.expr (.mcall .append (.var i) (.cons a .nil))) ps P := by
  unfold wS; rw [if_neg (by simp [simpleS, fE, fEs, hs])]; exact ⟨hi, xs, hp, hl, h⟩
theorem w_ret {e : E} (hs : simpleS tv (.ret e) = false) (h : wE pcl G D tv e ps fun t => P (.rt t)) : wS pcl G D tv (.ret e) ps P := by
  unfold wS; rw [if_neg (by rw [hs]; decide)]; exact h
/-- a test without draws -/
theorem w_if {c : E} {a b : Ss} {k : Bool} (hf : fE tv c = true) (e : ((pE pcl G c ps).bind fun x => ptruR x) = .ok k) (h : if k then wSs pcl G D tv a ps P else wSs pcl G D tv b ps P) : wS pcl G D tv (.ifS c a b) ps P := by
  unfold wS wC; rw [if_pos hf]; exact ⟨k, e, h⟩
theorem w_ifT {c : E} {a b : Ss} (hf : fE tv c = true) (e : ((pE pcl G c ps).bind fun x => ptruR x) = .ok true) (h : wSs pcl G D tv a ps P) : wS pcl G D tv (.ifS c a b) ps P := w_if hf e (by rw [if_pos rfl]; exact h)
theorem w_ifF {c : E} {a b : Ss} (hf : fE tv c = true) (e : ((pE pcl G c ps).bind fun x => ptruR x) = .ok false) (h : wSs pcl G D tv b ps P) : wS pcl G D tv (.ifS c a b) ps P := w_if hf e (by rw [if_neg (by decide)]; exact h)
theorem pTg_nm {i : Nat} {x : T} : pTg pcl G (.nm i) x ps = .ok (ps.set i (some (.v x))) := by simp only [pTg]
theorem w_int {i : Int} (q : Q (.int i)) : wE pcl G D tv (.cst (.int i)) ps Q := w_val rfl (by simp only [pE, T.lim, if_true]) q
theorem w_ifD {c : E} {a b : Ss} (hf : fE tv c = false) (h : wE pcl G D tv c ps fun t => ∃ k, ptru (.v t) = some k ∧ if k then wSs pcl G D tv a ps P else wSs pcl G D tv b ps P) : wS pcl G D tv (.ifS c a b) ps P := by
  unfold wS wC; rw [if_neg (by rw [hf]; decide)]; exact h
theorem w_try {b h1 : Ss} {c : Nat} (h : wSs pcl G D tv b ps fun r => match r with
    | .xc x p => x.cls = c ∧ wSs pcl G D tv h1 p fun r => match r with
      | .xc _ _ => False
      | r => P r
    | r => P r) : wS pcl G D tv (.tryS b c none h1) ps P := by
  unfold wS; exact ⟨rfl, h⟩
theorem wE_mono {e : E} {Q Q' : T → Prop} (h : wE pcl G D tv e ps Q) (hD : True) (hq : Q = Q') : wE pcl G D tv e ps Q' := hq ▸ h
end
theorem All2.len {α β : Type} {R : α → β → Prop} {as : List α} {bs : List β} (h : All2 R as bs) : as.length = bs.length := by
  induction h with
  | nil => rfl
  | cons _ _ ih => simp [ih]
theorem All2.mem {α β : Type} {R : α → β → Prop} {as : List α} {bs : List β} (h : All2 R as bs) {P : β → Prop} (hp : ∀ a b, a ∈ as → R a b → P b) : ∀ b ∈ bs, P b := by
  induction h with
  | nil => simp
  | cons r _ ih =>
    intro b hb
    rcases List.mem_cons.mp hb with rfl | hb
    · exact hp _ _ List.mem_cons_self r
    · exact ih (fun a b ha => hp a b (List.mem_cons_of_mem _ ha)) b hb
/-- results that are pictures of things -/
theorem All2.pick {α β γ : Type} {R : α → β → Prop} {as : List α} {bs : List β} (h : All2 R as bs) (enc : γ → β) (P : γ → Prop) (hp : ∀ a b, a ∈ as → R a b → ∃ c, b = enc c ∧ P c) : ∃ cs : List γ, bs = cs.map enc ∧ cs.length = as.length ∧ ∀ c ∈ cs, P c := by
  induction h with
  | nil => exact ⟨[], rfl, rfl, by simp⟩
  | cons r _ ih =>
    obtain ⟨c, e, pc⟩ := hp _ _ List.mem_cons_self r
    obtain ⟨cs, e2, l, pcs⟩ := ih fun a b ha => hp a b (List.mem_cons_of_mem _ ha)
    refine ⟨c :: cs, by rw [e, e2]; rfl, by simp [l], fun x hx => ?_⟩
    rcases List.mem_cons.mp hx with rfl | hx
    · exact pc
    · exact pcs x hx
end PF

end

section
set_option Elab.async false
set_option linter.all false
set_option maxRecDepth 10000
set_option maxHeartbeats 2000000
set_option autoImplicit false
/-! PfH: things told by data: equal, in, among the keys of a dict; orders of ints. -/
namespace PF
open PySem
structure Enc {α : Type} [DecidableEq α] (enc : α → T) (f : α → PyData) (k : Nat) : Prop where
  to : ∀ x, toD (enc x) = some (f x)
  eq : ∀ x y, (f x).eqv (f y) = decide (x = y)
  dp : ∀ x, (f x).depth ≤ k
section
variable {α : Type} [DecidableEq α] {enc : α → T} {f : α → PyData} {k : Nat}
theorem Enc.tos (h : Enc enc f k) : ∀ l : List α, toDs (l.map enc) = some (l.map f)
  | [] => rfl
  | x :: l => by simp only [List.map_cons, toDs, h.to x, h.tos l]
theorem Enc.eqs (h : Enc enc f k) : ∀ a b : List α, PyData.eqvAll (a.map f) (b.map f) = decide (a = b)
  | [], [] => by simp [PyData.eqvAll]
  | x :: a, [] => by simp [PyData.eqvAll]
  | [], y :: b => by simp [PyData.eqvAll]
  | x :: a, y :: b => by
    simp only [List.map_cons, PyData.eqvAll, h.eq, h.eqs a b, List.cons.injEq, Bool.decide_and]
theorem Enc.dps (h : Enc enc f k) : ∀ l : List α, PyData.depthAll (l.map f) ≤ k
  | [] => by simp [PyData.depthAll]
  | x :: l => by
    have h1 := h.dp x
    have h2 := h.dps l
    simp only [List.map_cons, PyData.depthAll]
    omega
theorem Enc.tup (h : Enc enc f k) : Enc (fun l : List α => .tup (l.map enc)) (fun l => .tuple (l.map f)) (k + 1) :=
  ⟨fun l => by simp only [toD, h.tos l, Option.map_some], fun a b => by simp only [PyData.eqv, h.eqs], fun l => by have := h.dps l; simp only [PyData.depth]; omega⟩
theorem Enc.rol (h : Enc enc f k) : Enc (fun l : List α => .rol (l.map enc)) (fun l => .list (l.map f)) (k + 1) :=
  ⟨fun l => by simp only [toD, h.tos l, Option.map_some], fun a b => by simp only [PyData.eqv, h.eqs], fun l => by have := h.dps l; simp only [PyData.depth]; omega⟩
theorem Enc.peq (h : Enc enc f k) (hk : k ≤ 190) (x y : α) : peq (.v (enc x)) (.v (enc y)) = some (decide (x = y)) := by
  unfold PF.peq
  simp only [presD, h.to, h.eq]
  rw [if_pos (by have := h.dp x; omega)]
theorem Enc.eqF (h : Enc enc f k) (x y : α) : PF.eqF (enc x) (enc y) = decide (x = y) := by
  unfold PF.eqF
  simp only [h.to, h.eq]
theorem any_mem (x : α) : ∀ l : List α, (l.any fun y => decide (y = x)) = decide (x ∈ l)
  | [] => by simp
  | y :: l => by
    rw [List.any_cons, any_mem x l, Bool.eq_iff_iff]
    simp only [Bool.or_eq_true, decide_eq_true_eq, List.mem_cons]
    constructor
    · rintro (h | h)
      · exact .inl h.symm
      · exact .inr h
    · rintro (h | h)
      · exact .inl h.symm
      · exact .inr h
theorem Enc.pin (h : Enc enc f k) (hk : k ≤ 180) (x : α) {l : List α} {p : PC} (e : pseq p = some (l.map enc)) : pin (.v (enc x)) p = some (decide (x ∈ l)) := by
  unfold PF.pin
  simp only [e]
  split
  · congr 1
    rw [List.any_map, ← any_mem]
    congr 1
    funext y
    exact h.eqF y x
  · simp only [h.to, h.tos]
    rw [if_pos (by have := h.dp x; omega)]
    congr 1
    rw [List.any_map, ← any_mem]
    congr 1
    funext y
    exact h.eq y x
end
theorem enc_int : Enc T.int PyData.int 0 := ⟨fun _ => rfl, fun x y => by simp only [PyData.eqv]; rfl, fun _ => by simp [PyData.depth]⟩
theorem enc_bl : Enc T.bl PyData.bool 0 := ⟨fun _ => rfl, fun x y => by simp only [PyData.eqv]; cases x <;> cases y <;> rfl, fun _ => by simp [PyData.depth]⟩

/-! ### ints as keys, all with one value -/
def putK (k : Int) (ks : List Int) : List Int := if k ∈ ks then ks else ks ++ [k]
def dk (ks : List Int) : List (T × T) := ks.map fun k => (.int k, .bl true)
theorem dk_any (k : Int) : ∀ ks : List Int, ((dk ks).any fun p => keyEq (.int k) p.1) = decide (k ∈ ks)
  | [] => by simp [dk]
  | a :: ks => by
    have h := dk_any k ks
    unfold dk at h ⊢
    rw [List.map_cons, List.any_cons, h, Bool.eq_iff_iff]
    simp only [keyEq, Bool.or_eq_true, decide_eq_true_eq, List.mem_cons]
theorem dk_put (k : Int) (ks : List Int) : dPut (.int k) (.bl true) (dk ks) = dk (putK k ks) := by
  unfold dPut putK
  rw [dk_any]
  by_cases h : k ∈ ks
  · simp only [h, decide_true, if_true]
    unfold dk
    rw [List.map_map]
    apply List.map_congr_left
    intro a ha
    show (if keyEq (.int k) (.int a) = true then ((T.int a, T.bl true) : T × T) else (.int a, .bl true)) = (.int a, .bl true)
    cases keyEq (.int k) (.int a) <;> rfl
  · simp only [h, decide_false, Bool.false_eq_true, if_false]
    unfold dk
    rw [List.map_append]
    rfl
theorem dk_look (k : Int) : ∀ ks : List Int, (dLook (.int k) (dk ks)).isSome = decide (k ∈ ks)
  | [] => by simp [dk, dLook]
  | a :: ks => by
    have h := dk_look k ks
    unfold dk at h ⊢
    rw [List.map_cons, dLook]
    by_cases e : k = a
    · subst e; simp [keyEq]
    · rw [if_neg (by simp [keyEq, e]), h]
      simp [e]
theorem dk_fold : ∀ (ms ks : List Int), (dk ms).foldl (fun acc p => dPut p.1 p.2 acc) (dk ks) = dk (ms.foldl (fun acc k => putK k acc) ks)
  | [], ks => rfl
  | m :: ms, ks => by
    have h := dk_fold ms (putK m ks)
    rw [← dk_put] at h
    unfold dk at h ⊢
    rw [List.map_cons, List.foldl_cons, List.foldl_cons]
    rw [h]
theorem dk_keys (ks : List Int) : (dk ks).map (·.1) = ks.map T.int := by unfold dk; rw [List.map_map]; rfl
theorem dk_len (ks : List Int) : (dk ks).length = ks.length := by unfold dk; rw [List.length_map]
theorem putK_mem (k x : Int) (ks : List Int) : x ∈ putK k ks ↔ x = k ∨ x ∈ ks := by
  unfold putK
  split
  · rename_i h
    constructor
    · exact .inr
    · rintro (rfl | q)
      · exact h
      · exact q
  · rw [List.mem_append, List.mem_singleton]
    exact Or.comm
theorem putK_nd (k : Int) {ks : List Int} (h : ks.Nodup) : (putK k ks).Nodup := by
  unfold putK
  split
  · exact h
  · rename_i hk
    exact List.nodup_append.mpr ⟨h, by simp, fun a ha b hb e => by rw [List.mem_singleton] at hb; subst hb; subst e; exact hk ha⟩
theorem putK_len (k : Int) (ks : List Int) : (putK k ks).length ≤ ks.length + 1 := by
  unfold putK
  split
  · omega
  · simp
theorem putKs_mem (x : Int) : ∀ (ms ks : List Int), x ∈ ms.foldl (fun acc k => putK k acc) ks ↔ x ∈ ms ∨ x ∈ ks
  | [], ks => by simp
  | m :: ms, ks => by
    rw [List.foldl_cons, putKs_mem x ms, putK_mem, List.mem_cons]
    constructor
    · rintro (h | h | h)
      · exact .inl (.inr h)
      · exact .inl (.inl h)
      · exact .inr h
    · rintro ((h | h) | h)
      · exact .inr (.inl h)
      · exact .inl h
      · exact .inr (.inr h)
theorem putKs_nd : ∀ (ms : List Int) {ks : List Int}, ks.Nodup → (ms.foldl (fun acc k => putK k acc) ks).Nodup
  | [], _, h => h
  | m :: ms, _, h => putKs_nd ms (putK_nd m h)
theorem putKs_len : ∀ (ms ks : List Int), (ms.foldl (fun acc k => putK k acc) ks).length ≤ ks.length + ms.length
  | [], ks => by simp
  | m :: ms, ks => by
    have h1 := putKs_len ms (putK m ks)
    have h2 := putK_len m ks
    rw [List.foldl_cons, List.length_cons]
    omega
/-- a dict whose keys come one by one -/
theorem compID_dk {α : Type} {enc : α → T} {f : T → PR (Option (T × T))} {g : α → Option Int} : ∀ (ys : List α) (ks : List Int), (∀ y ∈ ys, f (enc y) = .ok ((g y).map fun k => (.int k, .bl true))) → ks.length + ys.length ≤ sizeLine →
    compID f (ys.map enc) (dk ks) = .ok (dk ((ys.filterMap g).foldl (fun acc k => putK k acc) ks))
  | [], ks, _, _ => by simp [compID]
  | y :: ys, ks, h, hl => by
    rw [List.map_cons, compID, h y List.mem_cons_self, PR.bind_ok, List.filterMap_cons]
    rw [List.length_cons] at hl
    cases e : g y with
    | none => exact compID_dk ys ks (fun z hz => h z (List.mem_cons_of_mem _ hz)) (by omega)
    | some k =>
      simp only [Option.map_some]
      rw [if_pos ⟨by rw [dk_len]; omega, rfl⟩, dk_put, compID_dk ys _ (fun z hz => h z (List.mem_cons_of_mem _ hz)) (by have := putK_len k ks; omega)]
      rfl
theorem isortI_mem {x : Int} {l : List Int} : x ∈ isortI l ↔ x ∈ l := (isortI_perm l).mem_iff
theorem isortI_congr {a b : List Int} (h : a.Perm b) : isortI a = isortI b := isortI_uniq ((isortI_perm a).trans h) (isortI_srt a)
/-- sorted, each once: told by its members -/
theorem isortI_set {ks r : List Int} (h : ks.Nodup) (hm : ∀ x, x ∈ ks ↔ x ∈ r) : isortI ks = isortI (nubI r) :=
  isortI_congr ((List.perm_ext_iff_of_nodup h (nubI_nodup r)).mpr fun x => (hm x).trans nubI_mem.symm)
/-- ints without repeats between bounds are few -/
theorem nodup_le : ∀ (n : Nat) {l : List Int}, l.Nodup → (∀ x ∈ l, x.natAbs ≤ n) → l.length ≤ 2 * n + 1
  | 0, l, h, hb => by
    match l, h, hb with
    | [], _, _ => simp
    | [a], _, _ => simp
    | a :: b :: r, h, hb =>
      have h1 := hb a (by simp)
      have h2 := hb b (by simp)
      have : a = b := by omega
      subst this
      simp at h
  | n + 1, l, h, hb => by
    have h1 := nodup_le n (l := (l.erase ((n : Int) + 1)).erase (-((n : Int) + 1))) ((h.erase _).erase _) fun x hx => by
      have hx1 := List.mem_of_mem_erase hx
      have hx2 := List.mem_of_mem_erase hx1
      have := hb x hx2
      have n1 : x ≠ (n : Int) + 1 := fun e => by subst e; exact (List.Nodup.not_mem_erase h) hx1
      have n2 : x ≠ -((n : Int) + 1) := fun e => by subst e; exact (List.Nodup.not_mem_erase (h.erase _)) hx
      omega
    have h2 := List.length_erase (a := (n : Int) + 1) (l := l)
    have h3 := List.length_erase (a := -((n : Int) + 1)) (l := l.erase ((n : Int) + 1))
    split at h2 <;> split at h3 <;> omega
end PF
namespace PF
open PySem
/-! ### pure parts of a run with a store -/
inductive SlR : Sl → PSl → Prop
  | nil : SlR [] []
  | no {o : Option T} {sl : Sl} {ps : PSl} : SlR sl ps → SlR (o :: sl) (none :: ps)
  | v {t : T} {sl : Sl} {ps : PSl} : Pur t → SlR sl ps → SlR (some t :: sl) (some (.v t) :: ps)
theorem SlR.len : ∀ {sl : Sl} {ps : PSl}, SlR sl ps → ps.length = sl.length
  | _, _, .nil => rfl
  | _, _, .no h => by simp [h.len]
  | _, _, .v _ h => by simp [h.len]
theorem SlR.at_ : ∀ {sl : Sl} {ps : PSl}, SlR sl ps → ∀ {i : Nat} {p : PC}, ps[i]? = some (some p) → ∃ t, p = .v t ∧ Pur t ∧ sl[i]? = some (some t)
  | _, _, .nil, i, p, e => by simp at e
  | _, _, .no h, 0, p, e => by simp at e
  | _, _, .v k h, 0, p, e => by simp at e; subst e; exact ⟨_, rfl, k, rfl⟩
  | _, _, .no h, i + 1, p, e => by
    obtain ⟨t, a, b, c⟩ := h.at_ (i := i) (by simpa using e)
    exact ⟨t, a, b, by simpa using c⟩
  | _, _, .v _ h, i + 1, p, e => by
    obtain ⟨t, a, b, c⟩ := h.at_ (i := i) (by simpa using e)
    exact ⟨t, a, b, by simpa using c⟩
theorem ev_pure {fns : List Fn} {G : Tab} (n : Nat) {sl : Sl} {ps : PSl} {st : Store} {e : E} {t : T} (hst : Cls st) (hs : SlR sl ps) (h : pE (prun fns G n) G e ps = .ok (.v t)) : evE (run fns G n) G e sl st = .ok t st := by
  have S : Sim st.length st sl ps := ⟨hs.len, fun i p e => by
      obtain ⟨t, rfl, k, q⟩ := hs.at_ e
      exact ⟨t, q, ⟨rfl, k⟩, fun n en => by subst en; exact k.noref.elim⟩, fun i j p q t e e' o => by
      obtain ⟨t, rfl, _⟩ := hs.at_ e
      cases o⟩
  have q := simE (G := G) (run_pure fns G n) hst e S
  rw [h] at q
  obtain ⟨a, q, rfl, _⟩ := q
  exact q
theorem relAs_v {st : Store} : ∀ {ts : List T}, Purs ts → RelAs st ts (ts.map .v)
  | [], _ => .nil
  | t :: ts, h => by
    simp only [Purs, T.lims, Bool.and_eq_true] at h
    exact .cons ⟨rfl, h.1⟩ (relAs_v h.2)
theorem run_ok {fns : List Fn} {G : Tab} {n f : Nat} {ts : List T} {v : T} {st : Store} (hst : Cls st) (hp : Purs ts) (h : prun fns G n f (ts.map .v) = .ok v) : run fns G n f ts st = .ok v st := by
  have q := run_pure fns G n f ts _ st hst (relAs_v hp)
  rw [h] at q
  obtain ⟨a, q, rfl, _⟩ := q
  exact q
theorem run_exc {fns : List Fn} {G : Tab} {n f : Nat} {ts : List T} {x : Ex} {st : Store} (hst : Cls st) (hp : Purs ts) (h : prun fns G n f (ts.map .v) = .exc x) : run fns G n f ts st = .exc x st := by
  have q := run_pure fns G n f ts _ st hst (relAs_v hp)
  rw [h] at q
  exact q.1
theorem gc_take {st' : Store} {n : Nat} {t : T} (h : Closed (st'.take n) n = true) (hl : n ≤ st'.length) (ht : Pur t) : gc n (.ok t st') = .ok t (st'.take n) := by
  have hv : t.lim n = true := T.lim_le (Nat.zero_le _) ht
  simp only [gc, h, hv, hl, decide_true, Bool.and_self, if_true]
theorem relAs_inv {st : Store} : ∀ {ts : List T} {us : List T}, RelAs st ts (us.map .v) → ts = us
  | _, [], h => by cases h; rfl
  | _, u :: us, h => by
    cases h with | cons a b =>
    rw [a.1, relAs_inv b]
end PF

end

section
set_option Elab.async false
set_option linter.all false
set_option maxRecDepth 100000
set_option maxHeartbeats 8000000
set_option autoImplicit false
/-! The code of the text, printed by gen.py from T.py. -/
namespace Lw
open PF PySem
def s_is_greater : Str := ⟨#[105, 115, 95, 103, 114, 101, 97, 116, 101, 114]⟩
def s_cells : Str := ⟨#[99, 101, 108, 108, 115]⟩
def s_at : Str := ⟨#[97, 116]⟩
def s_left : Str := ⟨#[108, 101, 102, 116]⟩
def s_seed : Str := ⟨#[115, 101, 101, 100]⟩
def s_salt : Str := ⟨#[115, 97, 108, 116]⟩
def s_f : Str := ⟨#[102]⟩
def s_g : Str := ⟨#[103]⟩
def s_h : Str := ⟨#[104]⟩
def s_a : Str := ⟨#[97]⟩
def s_b : Str := ⟨#[98]⟩
def s_k : Str := ⟨#[107]⟩
def s_ranks : Str := ⟨#[114, 97, 110, 107, 115]⟩
def s_is_greater_row : Str := ⟨#[105, 115, 95, 103, 114, 101, 97, 116, 101, 114, 95, 114, 111, 119]⟩
def s_rank : Str := ⟨#[114, 97, 110, 107]⟩
def b_is_variable : Ss := (.cons (.ret (.bcall (.isi .int) (.cons (.var 0) .nil)))
  .nil)
def b_variables_in : Ss := (.cons (.ifS (.call 0 (.cons (.var 0) .nil)) (.cons (.ret (.dct false (.cons (.var 0) (.cst (.bl true)) .nil)))
  .nil) .nil)
  (.cons (.asg (.nm 1) (.dct true .nil))
  (.cons (.for (.nm 2) (.val (.slc (.var 0) (.some (.cst (.int 1))) .none)) (.cons (.expr (.mcall .update (.var 1) (.cons (.call 1 (.cons (.var 2) .nil)) .nil)))
  .nil))
  (.cons (.ret (.fz (.var 1)))
  .nil))))
def b_path_greater : Ss := (.cons (.ifS (.cmp .Lt (.bcall .len (.cons (.dcomp false (.nm 3) (.val (.var 0)) .none (.var 3) (.cst (.bl true)) [3]) .nil)) (.bcall .len (.cons (.var 0) .nil))) (.cons (.raise 1 .nil)
  .nil) .nil)
  (.cons (.ret (.own s_is_greater (.make 0 (.cons (.var 0) .nil)) (.cons (.var 1) (.cons (.var 2) .nil))))
  .nil))
def b__law_tape : Ss := (.cons (.asg (.nm 1) (.comp false (.nm 3) (.val (.var 0)) .none (.bcall .abs (.cons (.bcall .int (.cons (.var 3) .nil)) .nil)) [3]))
  (.cons (.asg (.nm 2) (.cst (.int 7)))
  (.cons (.for (.nm 3) (.val (.var 1)) (.cons (.asg (.nm 2) (.bin .Mod (.bcall .int (.cons (.bin .Add (.bin .Mult (.var 2) (.cst (.int 31))) (.var 3)) .nil)) (.cst (.int 2147483647))))
  .nil))
  (.cons (.ret (.dct true (.cons (.cst (.str s_cells)) (.var 1) (.cons (.cst (.str s_at)) (.cst (.int 0)) (.cons (.cst (.str s_left)) (.cst (.int 0)) (.cons (.cst (.str s_seed)) (.var 2) (.cons (.cst (.str s_salt)) (.cst (.int 0)) .nil)))))))
  .nil))))
def b__law_take : Ss := (.cons (.ifS (.and (.cmp .Eq (.ix (.var 0) (.cst (.str s_left))) (.cst (.int 0))) (.cmp .Lt (.ix (.var 0) (.cst (.str s_at))) (.bcall .len (.cons (.ix (.var 0) (.cst (.str s_cells))) .nil)))) (.cons (.asg (.sub (.var 0) (.cst (.str s_left))) (.ix (.ix (.var 0) (.cst (.str s_cells))) (.ix (.var 0) (.cst (.str s_at)))))
  (.cons (.asg (.sub (.var 0) (.cst (.str s_at))) (.bin .Add (.ix (.var 0) (.cst (.str s_at))) (.cst (.int 1))))
  .nil)) .nil)
  (.cons (.ifS (.cmp .Gt (.ix (.var 0) (.cst (.str s_left))) (.cst (.int 0))) (.cons (.asg (.nm 3) (.bin .Mod (.bcall .int (.cons (.ix (.var 0) (.cst (.str s_left))) .nil)) (.var 1)))
  (.cons (.asg (.sub (.var 0) (.cst (.str s_left))) (.bin .FloorDiv (.ix (.var 0) (.cst (.str s_left))) (.var 1)))
  (.cons (.ret (.var 3))
  .nil))) .nil)
  (.cons (.asg (.sub (.var 0) (.cst (.str s_salt))) (.bin .Add (.ix (.var 0) (.cst (.str s_salt))) (.cst (.int 1))))
  (.cons (.asg (.nm 2) (.bin .Mod (.bcall .int (.cons (.bin .Add (.bin .Mult (.ix (.var 0) (.cst (.str s_seed))) (.cst (.int 48271))) (.bin .Mult (.ix (.var 0) (.cst (.str s_salt))) (.cst (.int 69621)))) .nil)) (.cst (.int 2147483647))))
  (.cons (.asg (.nm 2) (.bin .Mod (.bcall .int (.cons (.bin .Add (.bin .Add (.bin .Mult (.var 2) (.var 2)) (.bin .Mult (.ix (.var 0) (.cst (.str s_salt))) (.cst (.int 40692)))) (.cst (.int 12345))) .nil)) (.cst (.int 2147483399))))
  (.cons (.ret (.bin .Mod (.bcall .int (.cons (.var 2) .nil)) (.var 1)))
  .nil))))))
def b__law_first_order : Ss := (.cons (.ifS (.or (.cmp .Eq (.var 1) (.cst (.int 0))) (.cmp .Eq (.call 4 (.cons (.var 0) (.cons (.cst (.int 3)) .nil))) (.cst (.int 0)))) (.cons (.ret (.ite (.and (.cmp .Gt (.var 2) (.cst (.int 0))) (.cmp .Eq (.call 4 (.cons (.var 0) (.cons (.cst (.int 2)) .nil))) (.cst (.int 0)))) (.call 4 (.cons (.var 0) (.cons (.var 2) .nil))) (.ix (.lst false (.cons (.cst (.str s_a)) (.cons (.cst (.str s_b)) .nil))) (.call 4 (.cons (.var 0) (.cons (.cst (.int 2)) .nil))))))
  .nil) .nil)
  (.cons (.asg (.nm 3) (.ix (.lst false (.cons (.cst (.str s_f)) (.cons (.cst (.str s_g)) (.cons (.cst (.str s_h)) .nil)))) (.call 4 (.cons (.var 0) (.cons (.cst (.int 3)) .nil)))))
  (.cons (.ret (.bin .Add (.tup (.cons (.var 3) .nil)) (.bcall .tuple (.cons (.comp false (.nm 4) (.range (.cons (.ix (.dct false (.cons (.cst (.str s_f)) (.cst (.int 2)) (.cons (.cst (.str s_g)) (.cst (.int 1)) (.cons (.cst (.str s_h)) (.cst (.int 1)) .nil)))) (.var 3)) .nil)) .none (.call 5 (.cons (.var 0) (.cons (.bin .Sub (.var 1) (.cst (.int 1))) (.cons (.var 2) .nil)))) [4]) .nil))))
  .nil)))
def b__law_wrap : Ss := (.cons (.ifS (.bcall (.isi .str) (.cons (.var 0) .nil)) (.cons (.ret (.tup (.cons (.var 0) .nil)))
  .nil) .nil)
  (.cons (.ret (.ite (.bcall (.isi .int) (.cons (.var 0) .nil)) (.var 0) (.bin .Add (.tup (.cons (.ix (.var 0) (.cst (.int 0))) .nil)) (.bcall .tuple (.cons (.comp false (.nm 1) (.val (.slc (.var 0) (.some (.cst (.int 1))) .none)) .none (.call 6 (.cons (.var 1) .nil)) [1]) .nil)))))
  .nil))
def b__law_vars_of : Ss := (.cons (.ifS (.bcall (.isi .int) (.cons (.var 0) .nil)) (.cons (.ret (.lst false (.cons (.var 0) .nil)))
  .nil) .nil)
  (.cons (.asg (.nm 1) (.lst false .nil))
  (.cons (.for (.nm 2) (.val (.slc (.var 0) (.some (.cst (.int 1))) .none)) (.cons (.asg (.nm 1) (.bin .Add (.var 1) (.comp false (.nm 3) (.val (.call 7 (.cons (.var 2) .nil))) (.some (.cmp .NotIn (.var 3) (.var 1))) (.var 3) [3])))
  .nil))
  (.cons (.ret (.var 1))
  .nil))))
def b__law_subst : Ss := (.cons (.ifS (.bcall (.isi .int) (.cons (.var 0) .nil)) (.cons (.ret (.mcall .get (.var 1) (.cons (.var 0) (.cons (.var 0) .nil))))
  .nil) .nil)
  (.cons (.ret (.bin .Add (.tup (.cons (.ix (.var 0) (.cst (.int 0))) .nil)) (.bcall .tuple (.cons (.comp false (.nm 2) (.val (.slc (.var 0) (.some (.cst (.int 1))) .none)) .none (.call 8 (.cons (.var 2) (.cons (.var 1) .nil))) [2]) .nil))))
  .nil))
def b__law_greater : Ss := (.cons (.ifS (.bcall (.isi .int) (.cons (.var 1) .nil)) (.cons (.ret (.cst (.bl false)))
  .nil) .nil)
  (.cons (.ifS (.bcall (.isi .int) (.cons (.var 2) .nil)) (.cons (.ret (.cmp .In (.var 2) (.call 7 (.cons (.var 1) .nil))))
  .nil) .nil)
  (.cons (.ifS (.bcall .any (.cons (.comp false (.nm 7) (.val (.slc (.var 1) (.some (.cst (.int 1))) .none)) .none (.or (.cmp .Eq (.var 7) (.var 2)) (.call 9 (.cons (.var 0) (.cons (.var 7) (.cons (.var 2) .nil))))) [7]) .nil)) (.cons (.ret (.cst (.bl true)))
  .nil) .nil)
  (.cons (.par 4 5 (.mcall .index (.var 0) (.cons (.ix (.var 1) (.cst (.int 0))) .nil)) (.mcall .index (.var 0) (.cons (.ix (.var 2) (.cst (.int 0))) .nil)))
  (.cons (.ifS (.or (.cmp .Gt (.var 4) (.var 5)) (.not (.bcall .all (.cons (.comp false (.nm 7) (.val (.slc (.var 2) (.some (.cst (.int 1))) .none)) .none (.call 9 (.cons (.var 0) (.cons (.var 1) (.cons (.var 7) .nil)))) [7]) .nil)))) (.cons (.ret (.cst (.bl false)))
  .nil) .nil)
  (.cons (.ifS (.cmp .Lt (.var 4) (.var 5)) (.cons (.ret (.cst (.bl true)))
  .nil) .nil)
  (.cons (.asg (.nm 3) (.comp false (.nm 6) (.range (.cons (.cst (.int 1)) (.cons (.bcall .len (.cons (.var 1) .nil)) .nil))) (.some (.cmp .NotEq (.ix (.var 1) (.var 6)) (.ix (.var 2) (.var 6)))) (.var 6) [6]))
  (.cons (.ret (.and (.cmp .NotEq (.var 3) (.lst false .nil)) (.call 9 (.cons (.var 0) (.cons (.ix (.var 1) (.ix (.var 3) (.cst (.int 0)))) (.cons (.ix (.var 2) (.ix (.var 3) (.cst (.int 0)))) .nil))))))
  .nil))))))))
def b__law_is_refused : Ss := (.cons (.tryS (.cons (.expr (.call 2 (.cons (.var 0) (.cons (.var 1) (.cons (.var 2) .nil)))))
  .nil) 1 none (.cons (.ret (.cst (.bl true)))
  .nil))
  (.cons (.ret (.cst (.bl false)))
  .nil))
def b_law : Ss := (.cons (.asg (.nm 1) (.call 3 (.cons (.var 0) .nil)))
  (.cons (.asg (.nm 2) (.lst false (.cons (.ctp (.cons (.cst (.str s_f)) (.cons (.cst (.str s_g)) (.cons (.cst (.str s_h)) (.cons (.cst (.str s_a)) (.cons (.cst (.str s_b)) .nil)))))) (.cons (.ctp (.cons (.cst (.str s_h)) (.cons (.cst (.str s_a)) (.cons (.cst (.str s_f)) (.cons (.cst (.str s_b)) (.cons (.cst (.str s_g)) .nil)))))) (.cons (.ctp (.cons (.cst (.str s_b)) (.cons (.cst (.str s_a)) (.cons (.cst (.str s_h)) (.cons (.cst (.str s_g)) (.cons (.cst (.str s_f)) .nil)))))) (.cons (.ctp (.cons (.cst (.str s_g)) (.cons (.cst (.str s_f)) (.cons (.cst (.str s_a)) (.cons (.cst (.str s_b)) (.cons (.cst (.str s_h)) .nil)))))) .nil))))))
  (.cons (.for (.nm 3) (.range (.cons (.cst (.int 4)) .nil)) (.cons (.asg (.nm 4) (.ix (.var 2) (.call 4 (.cons (.var 1) (.cons (.cst (.int 4)) .nil)))))
  (.cons (.asg (.tup (.cons (.nm 6) (.cons (.nm 7) (.cons (.nm 8) .nil)))) (.comp false (.nm 11) (.range (.cons (.cst (.int 3)) .nil)) .none (.call 6 (.cons (.call 5 (.cons (.var 1) (.cons (.cst (.int 3)) (.cons (.cst (.int 2)) .nil)))) .nil)) [11]))
  (.cons (.ifS (.or (.cmp .NotEq (.bcall .repr (.cons (.call 2 (.cons (.var 4) (.cons (.var 6) (.cons (.var 7) .nil)))) .nil)) (.bcall .repr (.cons (.call 9 (.cons (.var 4) (.cons (.var 6) (.cons (.var 7) .nil)))) .nil))) (.call 2 (.cons (.var 4) (.cons (.var 6) (.cons (.var 6) .nil))))) (.cons (.ret (.cst (.bl false)))
  .nil) .nil)
  (.cons (.ifS (.and (.call 2 (.cons (.var 4) (.cons (.var 6) (.cons (.var 7) .nil)))) (.and (.call 2 (.cons (.var 4) (.cons (.var 7) (.cons (.var 8) .nil)))) (.not (.call 2 (.cons (.var 4) (.cons (.var 6) (.cons (.var 8) .nil))))))) (.cons (.ret (.cst (.bl false)))
  .nil) .nil)
  (.cons (.asg (.nm 5) (.dct false (.cons (.cst (.int 0)) (.call 6 (.cons (.call 5 (.cons (.var 1) (.cons (.cst (.int 2)) (.cons (.cst (.int 1)) .nil)))) .nil)) (.cons (.cst (.int 1)) (.call 6 (.cons (.call 5 (.cons (.var 1) (.cons (.cst (.int 2)) (.cons (.cst (.int 0)) .nil)))) .nil)) .nil))))
  (.cons (.ifS (.call 2 (.cons (.var 4) (.cons (.var 6) (.cons (.var 7) .nil)))) (.cons (.ifS (.or (.call 2 (.cons (.var 4) (.cons (.var 7) (.cons (.var 6) .nil)))) (.not (.call 2 (.cons (.var 4) (.cons (.call 8 (.cons (.var 6) (.cons (.var 5) .nil))) (.cons (.call 8 (.cons (.var 7) (.cons (.var 5) .nil))) .nil)))))) (.cons (.ret (.cst (.bl false)))
  .nil) .nil)
  (.cons (.ifS (.or (.not (.call 2 (.cons (.var 4) (.cons (.tup (.cons (.cst (.str s_f)) (.cons (.var 8) (.cons (.var 6) .nil)))) (.cons (.tup (.cons (.cst (.str s_f)) (.cons (.var 8) (.cons (.var 7) .nil)))) .nil))))) (.or (.not (.call 2 (.cons (.var 4) (.cons (.tup (.cons (.cst (.str s_g)) (.cons (.var 6) .nil))) (.cons (.tup (.cons (.cst (.str s_g)) (.cons (.var 7) .nil))) .nil))))) (.not (.call 2 (.cons (.var 4) (.cons (.tup (.cons (.cst (.str s_f)) (.cons (.var 6) (.cons (.var 8) .nil)))) (.cons (.tup (.cons (.cst (.str s_f)) (.cons (.var 7) (.cons (.var 8) .nil)))) .nil))))))) (.cons (.ret (.cst (.bl false)))
  .nil) .nil)
  .nil)) .nil)
  (.cons (.par 9 10 (.call 6 (.cons (.call 5 (.cons (.var 1) (.cons (.cst (.int 3)) (.cons (.cst (.int 0)) .nil)))) .nil)) (.call 6 (.cons (.call 5 (.cons (.var 1) (.cons (.cst (.int 3)) (.cons (.cst (.int 0)) .nil)))) .nil)))
  (.cons (.ifS (.and (.cmp .NotEq (.var 9) (.var 10)) (.cmp .Eq (.call 2 (.cons (.var 4) (.cons (.var 9) (.cons (.var 10) .nil)))) (.call 2 (.cons (.var 4) (.cons (.var 10) (.cons (.var 9) .nil)))))) (.cons (.ret (.cst (.bl false)))
  .nil) .nil)
  .nil)))))))))
  (.cons (.ret (.and (.call 10 (.cons (.tup (.cons (.cst (.str s_f)) (.cons (.cst (.str s_f)) .nil))) (.cons (.tup (.cons (.cst (.str s_a)) .nil)) (.cons (.tup (.cons (.cst (.str s_b)) .nil)) .nil)))) (.call 10 (.cons (.tup (.cons (.cst (.str s_f)) .nil)) (.cons (.tup (.cons (.cst (.str s_f)) (.cons (.tup (.cons (.cst (.str s_a)) .nil)) (.cons (.tup (.cons (.cst (.str s_a)) .nil)) .nil)))) (.cons (.tup (.cons (.cst (.str s_k)) (.cons (.cst (.int 0)) .nil))) .nil))))))
  .nil))))
def b_Order___init__ : Ss := (.cons (.asg (.fld (.var 0) s_ranks) (.dcomp false (.tup (.cons (.nm 2) (.cons (.nm 3) .nil))) (.enum (.var 1)) .none (.var 3) (.bin .Sub (.bcall .len (.cons (.var 1) .nil)) (.var 2)) [2, 3]))
  .nil)
def b_Order_rank : Ss := (.cons (.ifS (.cmp .NotIn (.var 1) (.fld (.var 0) s_ranks)) (.cons (.raise 1 .nil)
  .nil) .nil)
  (.cons (.ret (.ix (.fld (.var 0) s_ranks) (.var 1)))
  .nil))
def b_Order_is_greater : Ss := (.cons (.ifS (.call 0 (.cons (.var 1) .nil)) (.cons (.ret (.cst (.bl false)))
  .nil) .nil)
  (.cons (.ifS (.call 0 (.cons (.var 2) .nil)) (.cons (.ret (.cmp .In (.var 2) (.call 1 (.cons (.var 1) .nil))))
  .nil) .nil)
  (.cons (.ifS (.bcall .any (.cons (.compx (.nm 5) (.val (.slc (.var 1) (.some (.cst (.int 1))) .none)) .none (.or (.cmp .Eq (.var 5) (.var 2)) (.own s_is_greater (.var 0) (.cons (.var 5) (.cons (.var 2) .nil)))) [5]) .nil)) (.cons (.ret (.cst (.bl true)))
  .nil) .nil)
  (.cons (.par 3 4 (.own s_rank (.var 0) (.cons (.ix (.var 1) (.cst (.int 0))) .nil)) (.own s_rank (.var 0) (.cons (.ix (.var 2) (.cst (.int 0))) .nil)))
  (.cons (.ifS (.or (.cmp .Lt (.var 3) (.var 4)) (.not (.bcall .all (.cons (.compx (.nm 5) (.val (.slc (.var 2) (.some (.cst (.int 1))) .none)) .none (.own s_is_greater (.var 0) (.cons (.var 1) (.cons (.var 5) .nil))) [5]) .nil)))) (.cons (.ret (.cst (.bl false)))
  .nil) .nil)
  (.cons (.ret (.or (.cmp .Gt (.var 3) (.var 4)) (.own s_is_greater_row (.var 0) (.cons (.slc (.var 1) (.some (.cst (.int 1))) .none) (.cons (.slc (.var 2) (.some (.cst (.int 1))) .none) .nil)))))
  .nil))))))
def b_Order_is_greater_row : Ss := (.cons (.for (.tup (.cons (.nm 3) (.cons (.nm 4) .nil))) (.zip (.var 1) (.var 2)) (.cons (.ifS (.cmp .NotEq (.var 3) (.var 4)) (.cons (.ret (.own s_is_greater (.var 0) (.cons (.var 3) (.cons (.var 4) .nil))))
  .nil) .nil)
  .nil))
  (.cons (.ret (.cst (.bl false)))
  .nil))
def f_is_variable : Fn := ⟨"is_variable", ["term"], 1, 1, true, b_is_variable, false⟩
def f_variables_in : Fn := ⟨"variables_in", ["term"], 1, 3, true, b_variables_in, false⟩
def f_path_greater : Fn := ⟨"path_greater", ["row", "first", "second"], 3, 4, true, b_path_greater, true⟩
def f__law_tape : Fn := ⟨"_law_tape", ["script"], 1, 4, true, b__law_tape, false⟩
def f__law_take : Fn := ⟨"_law_take", ["tape", "many"], 2, 4, true, b__law_take, false⟩
def f__law_first_order : Fn := ⟨"_law_first_order", ["tape", "depth", "many"], 3, 5, true, b__law_first_order, false⟩
def f__law_wrap : Fn := ⟨"_law_wrap", ["t"], 1, 2, true, b__law_wrap, false⟩
def f__law_vars_of : Fn := ⟨"_law_vars_of", ["t"], 1, 4, true, b__law_vars_of, false⟩
def f__law_subst : Fn := ⟨"_law_subst", ["t", "values"], 2, 3, true, b__law_subst, false⟩
def f__law_greater : Fn := ⟨"_law_greater", ["row", "s", "t"], 3, 8, true, b__law_greater, false⟩
def f__law_is_refused : Fn := ⟨"_law_is_refused", ["row", "s", "t"], 3, 3, true, b__law_is_refused, false⟩
def f_law : Fn := ⟨"law", ["script"], 1, 12, true, b_law, false⟩
def f_Order___init__ : Fn := ⟨"Order.__init__", ["self", "row"], 2, 4, true, b_Order___init__, false⟩
def f_Order_rank : Fn := ⟨"Order.rank", ["self", "name"], 2, 2, true, b_Order_rank, false⟩
def f_Order_is_greater : Fn := ⟨"Order.is_greater", ["self", "first", "second"], 3, 6, true, b_Order_is_greater, false⟩
def f_Order_is_greater_row : Fn := ⟨"Order.is_greater_row", ["self", "first", "second"], 3, 5, true, b_Order_is_greater_row, false⟩
def fns : List Fn := [f_is_variable, f_variables_in, f_path_greater, f__law_tape, f__law_take, f__law_first_order, f__law_wrap, f__law_vars_of, f__law_subst, f__law_greater, f__law_is_refused, f_law, f_Order___init__, f_Order_rank, f_Order_is_greater, f_Order_is_greater_row]
def G : Tab := ⟨[], [⟨"Order", ["ranks"], [("rank", 13), ("is_greater", 14), ("is_greater_row", 15)], some 12⟩]⟩
theorem fn_0 : fns[0]? = some f_is_variable := rfl
theorem fn_1 : fns[1]? = some f_variables_in := rfl
theorem fn_2 : fns[2]? = some f_path_greater := rfl
theorem fn_3 : fns[3]? = some f__law_tape := rfl
theorem fn_4 : fns[4]? = some f__law_take := rfl
theorem fn_5 : fns[5]? = some f__law_first_order := rfl
theorem fn_6 : fns[6]? = some f__law_wrap := rfl
theorem fn_7 : fns[7]? = some f__law_vars_of := rfl
theorem fn_8 : fns[8]? = some f__law_subst := rfl
theorem fn_9 : fns[9]? = some f__law_greater := rfl
theorem fn_10 : fns[10]? = some f__law_is_refused := rfl
theorem fn_11 : fns[11]? = some f_law := rfl
theorem fn_12 : fns[12]? = some f_Order___init__ := rfl
theorem fn_13 : fns[13]? = some f_Order_rank := rfl
theorem fn_14 : fns[14]? = some f_Order_is_greater := rfl
theorem fn_15 : fns[15]? = some f_Order_is_greater_row := rfl
theorem i_is_variable : IsFn f_is_variable 1 1 b_is_variable := ⟨rfl, rfl, rfl, rfl⟩
theorem p_is_variable {N : Nat} {a0 : PC} : prun fns G (N + 1) 0 [a0] = (pSs (prun fns G N) G b_is_variable [some a0.arg]).toR := rfl
theorem i_variables_in : IsFn f_variables_in 1 3 b_variables_in := ⟨rfl, rfl, rfl, rfl⟩
theorem p_variables_in {N : Nat} {a0 : PC} : prun fns G (N + 1) 1 [a0] = (pSs (prun fns G N) G b_variables_in [some a0.arg, none, none]).toR := rfl
theorem i_path_greater : IsFn f_path_greater 3 4 b_path_greater := ⟨rfl, rfl, rfl, rfl⟩
theorem i__law_tape : IsFn f__law_tape 1 4 b__law_tape := ⟨rfl, rfl, rfl, rfl⟩
theorem p__law_tape {N : Nat} {a0 : PC} : prun fns G (N + 1) 3 [a0] = (pSs (prun fns G N) G b__law_tape [some a0.arg, none, none, none]).toR := rfl
theorem i__law_take : IsFn f__law_take 2 4 b__law_take := ⟨rfl, rfl, rfl, rfl⟩
theorem p__law_take {N : Nat} {a0 a1 : PC} : prun fns G (N + 1) 4 [a0, a1] = (pSs (prun fns G N) G b__law_take [some a0.arg, some a1.arg, none, none]).toR := rfl
theorem i__law_first_order : IsFn f__law_first_order 3 5 b__law_first_order := ⟨rfl, rfl, rfl, rfl⟩
theorem p__law_first_order {N : Nat} {a0 a1 a2 : PC} : prun fns G (N + 1) 5 [a0, a1, a2] = (pSs (prun fns G N) G b__law_first_order [some a0.arg, some a1.arg, some a2.arg, none, none]).toR := rfl
theorem i__law_wrap : IsFn f__law_wrap 1 2 b__law_wrap := ⟨rfl, rfl, rfl, rfl⟩
theorem p__law_wrap {N : Nat} {a0 : PC} : prun fns G (N + 1) 6 [a0] = (pSs (prun fns G N) G b__law_wrap [some a0.arg, none]).toR := rfl
theorem i__law_vars_of : IsFn f__law_vars_of 1 4 b__law_vars_of := ⟨rfl, rfl, rfl, rfl⟩
theorem p__law_vars_of {N : Nat} {a0 : PC} : prun fns G (N + 1) 7 [a0] = (pSs (prun fns G N) G b__law_vars_of [some a0.arg, none, none, none]).toR := rfl
theorem i__law_subst : IsFn f__law_subst 2 3 b__law_subst := ⟨rfl, rfl, rfl, rfl⟩
theorem p__law_subst {N : Nat} {a0 a1 : PC} : prun fns G (N + 1) 8 [a0, a1] = (pSs (prun fns G N) G b__law_subst [some a0.arg, some a1.arg, none]).toR := rfl
theorem i__law_greater : IsFn f__law_greater 3 8 b__law_greater := ⟨rfl, rfl, rfl, rfl⟩
theorem p__law_greater {N : Nat} {a0 a1 a2 : PC} : prun fns G (N + 1) 9 [a0, a1, a2] = (pSs (prun fns G N) G b__law_greater [some a0.arg, some a1.arg, some a2.arg, none, none, none, none, none]).toR := rfl
theorem i__law_is_refused : IsFn f__law_is_refused 3 3 b__law_is_refused := ⟨rfl, rfl, rfl, rfl⟩
theorem p__law_is_refused {N : Nat} {a0 a1 a2 : PC} : prun fns G (N + 1) 10 [a0, a1, a2] = (pSs (prun fns G N) G b__law_is_refused [some a0.arg, some a1.arg, some a2.arg]).toR := rfl
theorem i_law : IsFn f_law 1 12 b_law := ⟨rfl, rfl, rfl, rfl⟩
theorem p_law {N : Nat} {a0 : PC} : prun fns G (N + 1) 11 [a0] = (pSs (prun fns G N) G b_law [some a0.arg, none, none, none, none, none, none, none, none, none, none, none]).toR := rfl
theorem i_Order___init__ : IsFn f_Order___init__ 2 4 b_Order___init__ := ⟨rfl, rfl, rfl, rfl⟩
theorem p_Order___init__ {N : Nat} {a0 a1 : PC} : prun fns G (N + 1) 12 [a0, a1] = (pSs (prun fns G N) G b_Order___init__ [some a0.arg, some a1.arg, none, none]).toR := rfl
theorem i_Order_rank : IsFn f_Order_rank 2 2 b_Order_rank := ⟨rfl, rfl, rfl, rfl⟩
theorem p_Order_rank {N : Nat} {a0 a1 : PC} : prun fns G (N + 1) 13 [a0, a1] = (pSs (prun fns G N) G b_Order_rank [some a0.arg, some a1.arg]).toR := rfl
theorem i_Order_is_greater : IsFn f_Order_is_greater 3 6 b_Order_is_greater := ⟨rfl, rfl, rfl, rfl⟩
theorem p_Order_is_greater {N : Nat} {a0 a1 a2 : PC} : prun fns G (N + 1) 14 [a0, a1, a2] = (pSs (prun fns G N) G b_Order_is_greater [some a0.arg, some a1.arg, some a2.arg, none, none, none]).toR := rfl
theorem i_Order_is_greater_row : IsFn f_Order_is_greater_row 3 5 b_Order_is_greater_row := ⟨rfl, rfl, rfl, rfl⟩
theorem p_Order_is_greater_row {N : Nat} {a0 a1 a2 : PC} : prun fns G (N + 1) 15 [a0, a1, a2] = (pSs (prun fns G N) G b_Order_is_greater_row [some a0.arg, some a1.arg, some a2.arg, none, none]).toR := rfl
end Lw

end

section
set_option Elab.async false
set_option linter.all false
set_option maxRecDepth 100000
set_option maxHeartbeats 1000000
set_option autoImplicit false
/-! K20A: the path order, plain. -/
namespace Lw
inductive Tm where
  | v (n : Nat) | c (b : Bool) | u (b : Bool) (a : Tm) | f (x y : Tm)
  deriving DecidableEq
namespace Tm
def isv : Tm → Bool
  | v _ => true
  | _ => false
def sym : Tm → Nat
  | v _ => 9
  | f _ _ => 0
  | u false _ => 1
  | u true _ => 2
  | c false => 3
  | c true => 4
def args : Tm → List Tm
  | v _ => []
  | c _ => []
  | u _ a => [a]
  | f x y => [x, y]
def size : Tm → Nat
  | v _ => 1
  | c _ => 1
  | u _ a => a.size + 1
  | f x y => x.size + y.size + 1
def ht : Tm → Nat
  | v _ => 0
  | c _ => 0
  | u _ a => a.ht + 1
  | f x y => max x.ht y.ht + 1
theorem size_arg {x s : Tm} (h : x ∈ s.args) : x.size < s.size := by
  cases s <;> simp [args, size] at h ⊢
  · subst h; omega
  · rcases h with rfl | rfl <;> omega
theorem ht_arg {x s : Tm} (h : x ∈ s.args) : x.ht < s.ht := by
  cases s <;> simp [args, ht] at h ⊢
  · subst h; omega
  · rcases h with rfl | rfl <;> omega
def ar : Nat → Nat
  | 0 => 2
  | 1 => 1
  | 2 => 1
  | _ => 0
theorem args_ar {s : Tm} (hs : s.isv = false) : s.args.length = ar s.sym := by
  cases s with
  | v n => cases hs
  | c b => cases b <;> rfl
  | u b a => cases b <;> rfl
  | f x y => rfl
theorem args_len {s t : Tm} (h : s.sym = t.sym) (hs : s.isv = false) (ht : t.isv = false) : s.args.length = t.args.length := by
  rw [args_ar hs, args_ar ht, h]
theorem ext {s t : Tm} (h : s.sym = t.sym) (hs : s.isv = false) (ht : t.isv = false) (ha : s.args = t.args) : s = t := by
  cases s with
  | v n => cases hs
  | c b => cases t with
    | v n => cases ht
    | c b' => cases b <;> cases b' <;> simp [sym] at h ⊢
    | u b' a => cases b <;> cases b' <;> simp [sym] at h
    | f x y => cases b <;> simp [sym] at h
  | u b a => cases t with
    | v n => cases ht
    | c b' => cases b <;> cases b' <;> simp [sym] at h
    | u b' a' =>
      simp [args] at ha
      subst ha
      cases b <;> cases b' <;> simp [sym] at h ⊢
    | f x y => cases b <;> simp [sym] at h
  | f x y => cases t with
    | v n => cases ht
    | c b' => cases b' <;> simp [sym] at h
    | u b' a' => cases b' <;> simp [sym] at h
    | f x' y' => simp [args] at ha; rw [ha.1, ha.2]
/-- the variables -/
def vars : Tm → List Nat
  | v n => [n]
  | c _ => []
  | u _ a => a.vars
  | f x y => x.vars ++ y.vars
theorem mem_vars {s : Tm} (hs : s.isv = false) (m : Nat) : m ∈ s.vars ↔ ∃ x ∈ s.args, m ∈ x.vars := by
  cases s <;> first | (cases hs; done) | simp [vars, args]
/-- the first place where two rows differ -/
def row (g : Tm → Tm → Bool) : List Tm → List Tm → Bool
  | x :: xs, y :: ys => if x = y then row g xs ys else g x y
  | _, _ => false
def gtN (p : Nat → Nat) : Nat → Tm → Tm → Bool
  | 0, _, _ => false
  | n + 1, s, t => if s.isv then false else match t with
    | v m => decide (m ∈ s.vars)
    | t => if s.args.any (fun x => decide (x = t) || gtN p n x t) then true
      else if decide (p t.sym < p s.sym) || !(t.args.all fun y => gtN p n s y) then false
      else decide (p s.sym < p t.sym) || row (gtN p n) s.args t.args
theorem row_congr {g h : Tm → Tm → Bool} : ∀ {a b : List Tm}, (∀ x ∈ a, ∀ y ∈ b, g x y = h x y) → row g a b = row h a b
  | [], _, _ => by cases ‹List Tm› <;> rfl
  | _ :: _, [], _ => rfl
  | x :: xs, y :: ys, e => by
    unfold row
    rw [row_congr (a := xs) (b := ys) fun x hx y hy => e x (List.mem_cons_of_mem _ hx) y (List.mem_cons_of_mem _ hy), e x List.mem_cons_self y List.mem_cons_self]
theorem any_congr {α : Type} {f g : α → Bool} : ∀ {l : List α}, (∀ x ∈ l, f x = g x) → l.any f = l.any g
  | [], _ => rfl
  | x :: l, h => by rw [List.any_cons, List.any_cons, h x List.mem_cons_self, any_congr fun y hy => h y (List.mem_cons_of_mem _ hy)]
theorem all_congr {α : Type} {f g : α → Bool} : ∀ {l : List α}, (∀ x ∈ l, f x = g x) → l.all f = l.all g
  | [], _ => rfl
  | x :: l, h => by rw [List.all_cons, List.all_cons, h x List.mem_cons_self, all_congr fun y hy => h y (List.mem_cons_of_mem _ hy)]
theorem gtN_stable (p : Nat → Nat) : ∀ (n m : Nat) (s t : Tm), s.size + t.size ≤ n → s.size + t.size ≤ m → gtN p n s t = gtN p m s t := by
  intro n
  induction n with
  | zero => intro m s t h; cases s <;> simp [size] at h
  | succ n ih =>
    intro m s t h1 h2
    cases m with
    | zero => cases s <;> simp [size] at h2
    | succ m =>
      have e1 : ∀ x ∈ s.args, gtN p n x t = gtN p m x t := fun x hx => ih m x t (by have := size_arg hx; omega) (by have := size_arg hx; omega)
      have e2 : ∀ y ∈ t.args, gtN p n s y = gtN p m s y := fun y hy => ih m s y (by have := size_arg hy; omega) (by have := size_arg hy; omega)
      have e3 : row (gtN p n) s.args t.args = row (gtN p m) s.args t.args := row_congr fun x hx y hy => ih m x y (by have := size_arg hx; have := size_arg hy; omega) (by have := size_arg hx; have := size_arg hy; omega)
      unfold gtN
      split
      · rfl
      · split
        · rfl
        · rw [any_congr (l := s.args) (f := fun x => decide (x = t) || gtN p n x t) (g := fun x => decide (x = t) || gtN p m x t) fun x hx => by simp only [e1 x hx], all_congr e2, e3]
def gt (p : Nat → Nat) (s t : Tm) : Bool := gtN p (s.size + t.size) s t
theorem gt_of {p : Nat → Nat} {n : Nat} {s t : Tm} (h : s.size + t.size ≤ n) : gtN p n s t = gt p s t := gtN_stable p _ _ s t h (Nat.le_refl _)
/-- what the order is -/
theorem gt_eq (p : Nat → Nat) (s t : Tm) : gt p s t = if s.isv then false else match t with
    | v m => decide (m ∈ s.vars)
    | t => if s.args.any (fun x => decide (x = t) || gt p x t) then true
      else if decide (p t.sym < p s.sym) || !(t.args.all fun y => gt p s y) then false
      else decide (p s.sym < p t.sym) || row (gt p) s.args t.args := by
  obtain ⟨n, hn⟩ : ∃ n, s.size + t.size = n + 1 := ⟨s.size + t.size - 1, by cases s <;> simp [size] <;> omega⟩
  have e1 : ∀ x ∈ s.args, gtN p n x t = gt p x t := fun x hx => gt_of (by have := size_arg hx; omega)
  have e2 : ∀ y ∈ t.args, gtN p n s y = gt p s y := fun y hy => gt_of (by have := size_arg hy; omega)
  have e3 : row (gtN p n) s.args t.args = row (gt p) s.args t.args := row_congr fun x hx y hy => gt_of (by have := size_arg hx; have := size_arg hy; omega)
  conv => lhs; unfold gt
  rw [hn]
  conv => lhs; unfold gtN
  split
  · rfl
  · split
    · rfl
    · rw [any_congr (l := s.args) (f := fun x => decide (x = t) || gtN p n x t) (g := fun x => decide (x = t) || gt p x t) fun x hx => by simp only [e1 x hx], all_congr e2, e3]
/-- .. as a statement -/
structure Ord (p : Nat → Nat) : Prop where
  inj : ∀ s t : Tm, s.isv = false → t.isv = false → p s.sym = p t.sym → s.sym = t.sym
variable {p : Nat → Nat}
theorem gt_iff (s t : Tm) : gt p s t = true ↔ (∃ x ∈ s.args, x = t ∨ gt p x t = true) ∨
    (s.isv = false ∧ t.isv = false ∧ (∀ y ∈ t.args, gt p s y = true) ∧ (p s.sym < p t.sym ∨ (p s.sym = p t.sym ∧ row (gt p) s.args t.args = true))) := by
  rw [gt_eq]
  cases hs : s.isv with
  | true =>
    cases s <;> first | (cases hs; done) | skip
    simp [args]
  | false =>
    simp only [Bool.false_eq_true, if_false]
    cases ht : t.isv with
    | true =>
      cases t <;> first | (cases ht; done) | skip
      rename_i m
      simp only [decide_eq_true_eq, mem_vars hs]
      constructor
      · rintro ⟨x, hx, hm⟩
        refine .inl ⟨x, hx, ?_⟩
        cases hv : x.isv with
        | true =>
          cases x <;> first | (cases hv; done) | skip
          simp [vars] at hm
          exact .inl (by rw [hm])
        | false =>
          refine .inr ?_
          rw [gt_eq]
          simp [hv, hm]
      · rintro (⟨x, hx, rfl | hm⟩ | h)
        · exact ⟨_, hx, by simp [vars]⟩
        · refine ⟨x, hx, ?_⟩
          rw [gt_eq] at hm
          cases hv : x.isv with
          | true => simp [hv] at hm
          | false => simpa [hv] using hm
        · cases h.2.1
    | false =>
      have key : ∀ (b1 b2 : Bool) (k1 k2 : Prop) [Decidable k1] [Decidable k2] (r : Bool) (S A : Prop), (b1 = true ↔ S) → (b2 = true ↔ A) →
          ((if b1 then true else if decide k1 || !b2 then false else decide k2 || r) = true ↔ S ∨ (A ∧ ¬ k1 ∧ (k2 ∨ r = true))) := by
        intro b1 b2 k1 k2 _ _ r S A h1 h2
        rw [← h1, ← h2]
        cases b1 <;> cases b2 <;> cases r <;> by_cases q1 : k1 <;> by_cases q2 : k2 <;> simp [q1, q2]
      have fin := key (s.args.any fun x => decide (x = t) || gt p x t) (t.args.all fun y => gt p s y) (p t.sym < p s.sym) (p s.sym < p t.sym) (row (gt p) s.args t.args)
        (∃ x ∈ s.args, x = t ∨ gt p x t = true) (∀ y ∈ t.args, gt p s y = true) (by simp [List.any_eq_true]) (by simp [List.all_eq_true])
      have arith : ∀ R : Prop, (¬ p t.sym < p s.sym ∧ (p s.sym < p t.sym ∨ R)) ↔ (p s.sym < p t.sym ∨ (p s.sym = p t.sym ∧ R)) := fun R => by
        constructor
        · rintro ⟨h1, h2 | h2⟩
          · exact .inl h2
          · by_cases q : p s.sym < p t.sym
            · exact .inl q
            · exact .inr ⟨by omega, h2⟩
        · rintro (h | ⟨h1, h2⟩)
          · exact ⟨by omega, .inl h⟩
          · exact ⟨by omega, .inr h2⟩
      rw [arith] at fin
      cases t <;> first | (cases ht; done) | (simp only [true_and]; exact fin)
/-- part of, or the same -/
inductive Sub : Tm → Tm → Prop
  | refl (s : Tm) : Sub s s
  | arg {s y t : Tm} : Sub s y → y ∈ t.args → Sub s t
theorem Sub.size {s t : Tm} (h : Sub s t) : s.size ≤ t.size := by
  induction h with
  | refl => exact Nat.le_refl _
  | arg _ hy ih => have := size_arg hy; omega
theorem Sub.head {x s t : Tm} (hx : x ∈ s.args) (h : Sub s t) : Sub x t := by
  induction h with
  | refl => exact .arg (.refl x) hx
  | arg _ hy ih => exact .arg ih hy
theorem row_self (g : Tm → Tm → Bool) : ∀ a : List Tm, row g a a = false
  | [] => rfl
  | x :: a => by unfold row; rw [if_pos rfl]; exact row_self g a
theorem not_sub : ∀ (n : Nat) (s t : Tm), s.size + t.size ≤ n → Sub s t → gt p s t = true → False := by
  intro n
  induction n with
  | zero => intro s t h; cases s <;> simp [Tm.size] at h
  | succ n ih =>
    intro s t hn hsub h
    rw [gt_iff] at h
    rcases h with ⟨x, hx, rfl | hg⟩ | ⟨hs, ht, hall, hp⟩
    · have := size_arg hx
      have := hsub.size
      omega
    · exact ih x t (by have := size_arg hx; omega) (hsub.head hx) hg
    · cases hsub with
      | refl =>
        rcases hp with hp | ⟨_, hp⟩
        · omega
        · rw [row_self] at hp; cases hp
      | arg h1 hy => exact ih s _ (by have := size_arg hy; omega) h1 (hall _ hy)
theorem irrefl (s : Tm) : gt p s s = false := by
  cases h : gt p s s with
  | false => rfl
  | true => exact (not_sub _ s s (Nat.le_refl _) (.refl s) h).elim
theorem row_trans {g : Tm → Tm → Bool} : ∀ {a b d : List Tm}, (∀ x ∈ a, g x x = false) → (∀ x ∈ a, ∀ y ∈ b, ∀ z ∈ d, g x y = true → g y z = true → g x z = true) → row g a b = true → row g b d = true → row g a d = true
  | [], _, _, _, _, h, _ => by simp [row] at h
  | _ :: _, [], _, _, _, h, _ => by simp [row] at h
  | _ :: _, _ :: _, [], _, _, _, h => by simp [row] at h
  | x :: a, y :: b, z :: d, hi, ht, h1, h2 => by
    unfold row at h1 h2 ⊢
    by_cases e1 : x = y
    · rw [if_pos e1] at h1
      subst e1
      by_cases e2 : x = z
      · rw [if_pos e2] at h2 ⊢
        exact row_trans (fun x hx => hi x (List.mem_cons_of_mem _ hx)) (fun x hx y hy z hz => ht x (List.mem_cons_of_mem _ hx) y (List.mem_cons_of_mem _ hy) z (List.mem_cons_of_mem _ hz)) h1 h2
      · rw [if_neg e2] at h2 ⊢; exact h2
    · rw [if_neg e1] at h1
      by_cases e2 : y = z
      · subst e2; rw [if_neg e1]; exact h1
      · rw [if_neg e2] at h2
        have h3 := ht x List.mem_cons_self y List.mem_cons_self z List.mem_cons_self h1 h2
        have : x ≠ z := fun e => by
          subst e
          rw [hi x List.mem_cons_self] at h3; cases h3
        rw [if_neg this]; exact h3
theorem trans_n : ∀ (n : Nat) (s t w : Tm), s.size + t.size + w.size ≤ n → gt p s t = true → gt p t w = true → gt p s w = true := by
  intro n
  induction n with
  | zero => intro s t w h; cases s <;> simp [size] at h
  | succ n ih =>
    intro s t w hn h1 h2
    have h1' := h1
    rw [gt_iff] at h1
    rcases h1 with ⟨x, hx, rfl | hg⟩ | ⟨hs, ht, hall, hp⟩
    · rw [gt_iff]; exact .inl ⟨x, hx, .inr h2⟩
    · rw [gt_iff]; exact .inl ⟨x, hx, .inr (ih x t w (by have := size_arg hx; omega) hg h2)⟩
    · have h2' := h2
      rw [gt_iff] at h2
      rcases h2 with ⟨y, hy, rfl | hg⟩ | ⟨_, hw, hall2, hp2⟩
      · exact hall y hy
      · exact ih s y w (by have := size_arg hy; omega) (hall y hy) hg
      · rw [gt_iff]
        refine .inr ⟨hs, hw, fun z hz => ih s t z (by have := size_arg hz; omega) h1' (hall2 z hz), ?_⟩
        rcases hp with hp | ⟨e1, r1⟩
        · rcases hp2 with hp2 | ⟨e2, r2⟩
          · exact .inl (by omega)
          · exact .inl (by omega)
        · rcases hp2 with hp2 | ⟨e2, r2⟩
          · exact .inl (by omega)
          · refine .inr ⟨e1.trans e2, row_trans (fun x _ => irrefl x) (fun x hx y hy z hz => ih x y z (by have := size_arg hx; have := size_arg hy; have := size_arg hz; omega)) r1 r2⟩
theorem trans {s t w : Tm} (h1 : gt p s t = true) (h2 : gt p t w = true) : gt p s w = true := trans_n _ s t w (Nat.le_refl _) h1 h2
theorem asymm {s t : Tm} (h1 : gt p s t = true) : gt p t s = false := by
  cases h : gt p t s with
  | false => rfl
  | true =>
    have := trans h1 h
    rw [irrefl] at this; cases this
theorem ne_of_gt {s t : Tm} (h : gt p s t = true) : s ≠ t := fun e => by subst e; rw [irrefl] at h; cases h
/-- inside of functions -/
theorem in_u {b : Bool} {s t : Tm} (h : gt p s t = true) : gt p (u b s) (u b t) = true := by
  rw [gt_iff]
  refine .inr ⟨rfl, rfl, fun y hy => ?_, .inr ⟨by cases b <;> rfl, ?_⟩⟩
  · simp [args] at hy
    subst hy
    rw [gt_iff]
    exact .inl ⟨s, by simp [args], .inr h⟩
  · simp only [args, row]
    rw [if_neg (ne_of_gt h)]; exact h
theorem in_f2 {w s t : Tm} (h : gt p s t = true) : gt p (f w s) (f w t) = true := by
  rw [gt_iff]
  refine .inr ⟨rfl, rfl, fun y hy => ?_, .inr ⟨rfl, ?_⟩⟩
  · simp [args] at hy
    rw [gt_iff]
    rcases hy with rfl | rfl
    · exact .inl ⟨y, by simp [args], .inl rfl⟩
    · exact .inl ⟨s, by simp [args], .inr h⟩
  · simp only [args, row, if_true]
    rw [if_neg (ne_of_gt h)]; exact h
theorem in_f1 {w s t : Tm} (h : gt p s t = true) : gt p (f s w) (f t w) = true := by
  rw [gt_iff]
  refine .inr ⟨rfl, rfl, fun y hy => ?_, .inr ⟨rfl, ?_⟩⟩
  · simp [args] at hy
    rw [gt_iff]
    rcases hy with rfl | rfl
    · exact .inl ⟨s, by simp [args], .inr h⟩
    · exact .inl ⟨y, by simp [args], .inl rfl⟩
  · simp only [args, row]
    rw [if_neg (ne_of_gt h)]; exact h
/-- values put in -/
def sub (σ : Nat → Tm) : Tm → Tm
  | v n => σ n
  | c b => c b
  | u b a => u b (a.sub σ)
  | f x y => f (x.sub σ) (y.sub σ)
theorem sub_args {σ : Nat → Tm} {s : Tm} (hs : s.isv = false) : (s.sub σ).args = s.args.map (sub σ) ∧ (s.sub σ).sym = s.sym ∧ (s.sub σ).isv = false := by
  cases s <;> first | (cases hs; done) | skip
  · exact ⟨rfl, rfl, rfl⟩
  · rename_i b a; cases b <;> exact ⟨rfl, rfl, rfl⟩
  · exact ⟨rfl, rfl, rfl⟩
theorem row_sub {σ : Nat → Tm} : ∀ {a b : List Tm}, (∀ x ∈ a, ∀ y ∈ b, gt p x y = true → gt p (x.sub σ) (y.sub σ) = true) → row (gt p) a b = true → row (gt p) (a.map (sub σ)) (b.map (sub σ)) = true
  | [], _, _, h => by simp [row] at h
  | _ :: _, [], _, h => by simp [row] at h
  | x :: a, y :: b, hh, h => by
    rw [List.map_cons, List.map_cons]
    unfold row at h ⊢
    by_cases e : x = y
    · rw [if_pos e] at h
      subst e
      rw [if_pos rfl]
      exact row_sub (fun x hx y hy => hh x (List.mem_cons_of_mem _ hx) y (List.mem_cons_of_mem _ hy)) h
    · rw [if_neg e] at h
      have h2 := hh x List.mem_cons_self y List.mem_cons_self h
      rw [if_neg (ne_of_gt h2)]; exact h2
theorem sub_n {σ : Nat → Tm} : ∀ (n : Nat) (s t : Tm), s.size + t.size ≤ n → gt p s t = true → gt p (s.sub σ) (t.sub σ) = true := by
  intro n
  induction n with
  | zero => intro s t h; cases s <;> simp [size] at h
  | succ n ih =>
    intro s t hn h
    rw [gt_iff] at h
    rcases h with ⟨x, hx, hg⟩ | ⟨hs, ht, hall, hp⟩
    · have hs : s.isv = false := by cases s <;> first | rfl | simp [args] at hx
      rw [gt_iff]
      refine .inl ⟨x.sub σ, ?_, ?_⟩
      · rw [(sub_args hs).1]; exact List.mem_map.mpr ⟨x, hx, rfl⟩
      · rcases hg with rfl | hg
        · exact .inl rfl
        · exact .inr (ih x t (by have := size_arg hx; omega) hg)
    · obtain ⟨a1, a2, a3⟩ := sub_args (σ := σ) hs
      obtain ⟨b1, b2, b3⟩ := sub_args (σ := σ) ht
      rw [gt_iff]
      refine .inr ⟨a3, b3, fun y hy => ?_, ?_⟩
      · rw [b1] at hy
        obtain ⟨z, hz, rfl⟩ := List.mem_map.mp hy
        exact ih s z (by have := size_arg hz; omega) (hall z hz)
      · rw [a2, b2, a1, b1]
        rcases hp with hp | ⟨e, hr⟩
        · exact .inl hp
        · exact .inr ⟨e, row_sub (fun x hx y hy => ih x y (by have := size_arg hx; have := size_arg hy; omega)) hr⟩
theorem gt_sub {σ : Nat → Tm} {s t : Tm} (h : gt p s t = true) : gt p (s.sub σ) (t.sub σ) = true := sub_n _ s t (Nat.le_refl _) h
/-- closed -/
theorem row_total : ∀ {a b : List Tm}, a.length = b.length → a ≠ b → (∀ x ∈ a, ∀ y ∈ b, x ≠ y → gt p x y = true ∨ gt p y x = true) → row (gt p) a b = true ∨ row (gt p) b a = true
  | [], [], _, h, _ => absurd rfl h
  | [], _ :: _, h, _, _ => by simp at h
  | _ :: _, [], h, _, _ => by simp at h
  | x :: a, y :: b, hl, hne, hh => by
    unfold row
    by_cases e : x = y
    · subst e
      rw [if_pos rfl, if_pos rfl]
      exact row_total (by simpa using hl) (fun q => hne (by rw [q])) fun x hx y hy => hh x (List.mem_cons_of_mem _ hx) y (List.mem_cons_of_mem _ hy)
    · rw [if_neg e, if_neg (Ne.symm e)]
      exact hh x List.mem_cons_self y List.mem_cons_self e
theorem closed_arg {s x : Tm} (h : s.vars = []) (hx : x ∈ s.args) : x.vars = [] := by
  cases s <;> simp [args, vars] at h hx
  · subst hx; exact h
  · rcases hx with rfl | rfl
    · exact h.1
    · exact h.2
theorem closed_isv {s : Tm} (h : s.vars = []) : s.isv = false := by cases s <;> first | rfl | simp [vars] at h
theorem total_n (O : Ord p) : ∀ (n : Nat) (s t : Tm), s.size + t.size ≤ n → s.vars = [] → t.vars = [] → s ≠ t → gt p s t = true ∨ gt p t s = true := by
  intro n
  induction n with
  | zero => intro s t h; cases s <;> simp [size] at h
  | succ n ih =>
    intro s t hn cs ct hne
    by_cases q1 : ∃ x ∈ s.args, x = t ∨ gt p x t = true
    · exact .inl ((gt_iff s t).mpr (.inl q1))
    by_cases q2 : ∃ y ∈ t.args, y = s ∨ gt p y s = true
    · exact .inr ((gt_iff t s).mpr (.inl q2))
    have a1 : ∀ x ∈ s.args, gt p t x = true := fun x hx => by
      have h1 : ¬ (x = t ∨ gt p x t = true) := fun h => q1 ⟨x, hx, h⟩
      rcases ih x t (by have := size_arg hx; omega) (closed_arg cs hx) ct (fun e => h1 (.inl e)) with h | h
      · exact absurd (.inr h) h1
      · exact h
    have a2 : ∀ y ∈ t.args, gt p s y = true := fun y hy => by
      have h1 : ¬ (y = s ∨ gt p y s = true) := fun h => q2 ⟨y, hy, h⟩
      rcases ih s y (by have := size_arg hy; omega) cs (closed_arg ct hy) (fun e => h1 (.inl e.symm)) with h | h
      · exact h
      · exact absurd (.inr h) h1
    have hs := closed_isv cs
    have ht := closed_isv ct
    rcases Nat.lt_trichotomy (p s.sym) (p t.sym) with h | h | h
    · exact .inl ((gt_iff s t).mpr (.inr ⟨hs, ht, a2, .inl h⟩))
    · have he := O.inj s t hs ht h
      rcases row_total (args_len he hs ht) (fun q => hne (ext he hs ht q)) (fun x hx y hy hxy => ih x y (by have := size_arg hx; have := size_arg hy; omega) (closed_arg cs hx) (closed_arg ct hy) hxy) with hr | hr
      · exact .inl ((gt_iff s t).mpr (.inr ⟨hs, ht, a2, .inr ⟨h, hr⟩⟩))
      · exact .inr ((gt_iff t s).mpr (.inr ⟨ht, hs, a1, .inr ⟨h.symm, hr⟩⟩))
    · exact .inr ((gt_iff t s).mpr (.inr ⟨ht, hs, a1, .inl h⟩))
theorem total (O : Ord p) {s t : Tm} (cs : s.vars = []) (ct : t.vars = []) (h : s ≠ t) : gt p s t = true ∨ gt p t s = true := total_n O _ s t (Nat.le_refl _) cs ct h
end Tm
end Lw

end

section
set_option Elab.async false
set_option linter.all false
set_option maxRecDepth 100000
set_option maxHeartbeats 4000000
set_option autoImplicit false
/-! K20B: terms; what the pure defs compute. -/
namespace Lw
open PF PySem
namespace Tm
def nm : Tm → Str
  | v _ => s_f
  | f _ _ => s_f
  | u false _ => s_g
  | u true _ => s_h
  | c false => s_a
  | c true => s_b
def enc : Tm → T
  | v n => .int n
  | c false => .tup [.str s_a]
  | c true => .tup [.str s_b]
  | u false a => .tup [.str s_g, a.enc]
  | u true a => .tup [.str s_h, a.enc]
  | f x y => .tup [.str s_f, x.enc, y.enc]
def dat : Tm → PyData
  | v n => .int n
  | c false => .tuple [.str s_a]
  | c true => .tuple [.str s_b]
  | u false a => .tuple [.str s_g, a.dat]
  | u true a => .tuple [.str s_h, a.dat]
  | f x y => .tuple [.str s_f, x.dat, y.dat]
theorem enc_app {s : Tm} (hs : s.isv = false) : s.enc = .tup (.str s.nm :: s.args.map enc) := by
  cases s with
  | v n => cases hs
  | c b => cases b <;> rfl
  | u b a => cases b <;> rfl
  | f x y => rfl
theorem toD_enc : ∀ t : Tm, toD t.enc = some t.dat
  | v n => rfl
  | c false => rfl
  | c true => rfl
  | u false a => by simp only [enc, dat, toD, toDs, toD_enc a, Option.map_some]
  | u true a => by simp only [enc, dat, toD, toDs, toD_enc a, Option.map_some]
  | f x y => by simp only [enc, dat, toD, toDs, toD_enc x, toD_enc y, Option.map_some]
theorem dat_dp : ∀ t : Tm, t.dat.depth ≤ t.ht + 1
  | v n => by simp [dat, PyData.depth]
  | c false => by simp [dat, PyData.depth, PyData.depthAll]
  | c true => by simp [dat, PyData.depth, PyData.depthAll]
  | u false a => by have := dat_dp a; simp [dat, PyData.depth, PyData.depthAll, ht]; omega
  | u true a => by have := dat_dp a; simp [dat, PyData.depth, PyData.depthAll, ht]; omega
  | f x y => by have := dat_dp x; have := dat_dp y; simp [dat, PyData.depth, PyData.depthAll, ht]; omega
theorem ne_fg : (s_f == s_g) = false := by decide
theorem ne_fh : (s_f == s_h) = false := by decide
theorem ne_gf : (s_g == s_f) = false := by decide
theorem ne_gh : (s_g == s_h) = false := by decide
theorem ne_hf : (s_h == s_f) = false := by decide
theorem ne_hg : (s_h == s_g) = false := by decide
theorem ne_ab : (s_a == s_b) = false := by decide
theorem ne_ba : (s_b == s_a) = false := by decide
theorem eqv_dat : ∀ s t : Tm, s.dat.eqv t.dat = decide (s = t)
  | v n, v m => by
    simp only [dat, PyData.eqv, v.injEq]
    rw [Bool.eq_iff_iff]
    simp only [beq_iff_eq, decide_eq_true_eq]
    omega
  | v n, c b => by cases b <;> simp [dat, PyData.eqv]
  | v n, u b a => by cases b <;> simp [dat, PyData.eqv]
  | v n, f x y => by simp [dat, PyData.eqv]
  | c b, v n => by cases b <;> simp [dat, PyData.eqv]
  | u b a, v n => by cases b <;> simp [dat, PyData.eqv]
  | f x y, v n => by simp [dat, PyData.eqv]
  | c b, c b' => by cases b <;> cases b' <;> simp [dat, PyData.eqv, PyData.eqvAll, ne_ab, ne_ba]
  | c b, u b' a => by cases b <;> cases b' <;> simp [dat, PyData.eqv, PyData.eqvAll]
  | c b, f x y => by cases b <;> simp [dat, PyData.eqv, PyData.eqvAll]
  | u b a, c b' => by cases b <;> cases b' <;> simp [dat, PyData.eqv, PyData.eqvAll]
  | u b a, u b' a' => by
    have := eqv_dat a a'
    cases b <;> cases b' <;> simp [dat, PyData.eqv, PyData.eqvAll, ne_gh, ne_hg, this]
  | u b a, f x y => by cases b <;> simp [dat, PyData.eqv, PyData.eqvAll]
  | f x y, c b => by cases b <;> simp [dat, PyData.eqv, PyData.eqvAll]
  | f x y, u b a => by cases b <;> simp [dat, PyData.eqv, PyData.eqvAll]
  | f x y, f x' y' => by
    have h1 := eqv_dat x x'
    have h2 := eqv_dat y y'
    simp [dat, PyData.eqv, PyData.eqvAll, h1, h2]
theorem peq_t {s t : Tm} (h : s.ht ≤ 100) : peq (.v s.enc) (.v t.enc) = some (decide (s = t)) := by
  unfold PF.peq
  simp only [presD, toD_enc, eqv_dat]
  rw [if_pos (by have := dat_dp s; omega)]
theorem eqT_t {s t : Tm} {st : Store} (h : s.ht ≤ 100) : eqT st s.enc t.enc = some (decide (s = t)) := by
  have hr : ∀ t : Tm, resD st t.enc = some t.dat := fun t => by
    rw [← toD_enc t]
    cases t with
    | v n => rfl
    | c b => cases b <;> rfl
    | u b a => cases b <;> rfl
    | f x y => rfl
  unfold PF.eqT
  simp only [hr, eqv_dat]
  rw [if_pos (by have := dat_dp s; omega)]
theorem pur_enc : ∀ t : Tm, Pur t.enc
  | v n => rfl
  | c false => rfl
  | c true => rfl
  | u false a => by have := pur_enc a; simp only [Pur] at this; simp [Pur, enc, T.lim, T.lims, this]
  | u true a => by have := pur_enc a; simp only [Pur] at this; simp [Pur, enc, T.lim, T.lims, this]
  | f x y => by have h1 := pur_enc x; have h2 := pur_enc y; simp only [Pur] at h1 h2; simp [Pur, enc, T.lim, T.lims, h1, h2]
theorem isi_i {t : Tm} : pbfn (.isi .int) [.v t.enc] = .ok (.v (.bl t.isv)) := by
  cases t with
  | v n => rfl
  | c b => cases b <;> rfl
  | u b a => cases b <;> rfl
  | f x y => rfl
theorem isi_s {t : Tm} : pbfn (.isi .str) [.v t.enc] = .ok (.v (.bl false)) := by
  cases t with
  | v n => rfl
  | c b => cases b <;> rfl
  | u b a => cases b <;> rfl
  | f x y => rfl
theorem ix_0 {t : Tm} (h : t.isv = false) : pix (.v t.enc) (.v (.int 0)) = some (.str t.nm) := by
  rw [enc_app h, o_ixT, show (0 : Int) = ((0 : Nat) : Int) from rfl, ixN_nat (by simp)]
  rfl
theorem slc_1 {t : Tm} (h : t.isv = false) : pslc (.v t.enc) (some 1) none = .ok (.v (.tup (t.args.map enc))) := by
  rw [enc_app h]
  show PR.ok (PC.v (.tup (cutT _ _ _))) = _
  congr 3
  have h1 : ¬ ((t.args.length : Int) + 1 < 1) := by omega
  simp only [cutT, sIx, h1, List.length_cons, List.length_map]
  simp [h1]
  rw [List.take_of_length_le (by simp)]
theorem len_t {t : Tm} (h : t.isv = false) : pbfn .len [.v t.enc] = .ok (.v (.int ((t.args.length + 1 : Nat) : Int))) := by
  rw [enc_app h]
  show PR.ok (PC.v (T.int _)) = _
  simp
theorem ix_k {t : Tm} (h : t.isv = false) {k : Nat} {x : Tm} (e : t.args[k]? = some x) : pix (.v t.enc) (.v (.int (1 + (k : Int)))) = some x.enc := by
  have hk := (List.getElem?_eq_some_iff.mp e).1
  rw [enc_app h]
  show (ixN (T.str t.nm :: t.args.map enc).length (1 + (k : Int))).bind (fun j => (T.str t.nm :: t.args.map enc)[j]?) = _
  rw [show (1 + (k : Int)) = ((k + 1 : Nat) : Int) by omega, ixN_nat (by simp; exact hk), Option.bind_some, List.getElem?_cons_succ, List.getElem?_map, e]
  rfl
theorem args_le (t : Tm) : t.args.length ≤ 2 := by cases t <;> simp [args]
theorem ht_args {t x : Tm} {n : Nat} (h : t.ht ≤ n) (hx : x ∈ t.args) : x.ht + 1 ≤ n := by have := ht_arg hx; omega
theorem y_enc {t : Tm} (h : t.isv = false) : pwalk true (.v t.enc) = some (.str t.nm :: t.args.map enc) := by rw [enc_app h]; rfl
/-! ### is_variable -/
theorem is_variable_s {M : Nat} {t : Tm} (hM : 1 ≤ M) : prun fns G M 0 [.v t.enc] = .ok (.bl t.isv) := by
  obtain ⟨N, rfl⟩ : ∃ N, M = N + 1 := ⟨M - 1, by omega⟩
  rw [p_is_variable]
  unfold b_is_variable
  simp only [pE.eq_1, pE.eq_2, pE.eq_3, pE.eq_4, pE.eq_5, pE.eq_6, pE.eq_7, pE.eq_8, pE.eq_9, pE.eq_10, pE.eq_11, pE.eq_12, pE.eq_13, pE.eq_14, pE.eq_15, pE.eq_16, pE.eq_17, pE.eq_18, pE.eq_19, pE.eq_20, pE.eq_21, pE.eq_22, pE.eq_23, pE.eq_24, pE.eq_25, pE.eq_26, pS.eq_1, pS.eq_2, pS.eq_3, pS.eq_4, pS.eq_5, pS.eq_6, pS.eq_7, pS.eq_8, pS.eq_9, pS.eq_10, pS.eq_11, pS.eq_12, pS.eq_13, pS.eq_14, pS.eq_15, pS.eq_16, pS.eq_17, pS.eq_18, pS.eq_19, pS.eq_22, pS.eq_24, pNew.eq_1, pNew.eq_2, pNew.eq_3, pNew.eq_4, pNew.eq_5, pNew.eq_6, pNew.eq_7, pE_comp, pE_comp2, pE_dcomp, pS_for, isNew, pSs_cons, pSs_nil, q_nx, q_rt, q_bk, q_ct, q_xc, pEs, pAs, pKV, pEo, pC, pIt, pwalk, pTg, pTgs, cB, cBD, pwipe, PR.bind_ok, PR.bind_exc, PR.ofOpt_some, PR.noExc_ok, PR.thenS_ok, PR.thenS_exc, PC.val_v, PRS.noXc, r_nx, r_rt, r_xc, a_v, a_l, a_bl, T.lim, o_add, o_sub, o_mul, o_div, o_mod, o_addT, o_addLL, o_eq, o_ne, o_lt, o_le, o_gt, o_ge, o_isN, o_isnN, o_isB, o_isnB, o_isT, o_isnT, o_isI, o_isnI, o_isL, o_isnL, eqv_int, o_ixT, o_ixR, o_ixl, o_ixbl, o_slcT, o_slcR, o_slcl, o_revT, o_revR, o_lenT, o_lenR, o_lenl, o_lenbl, o_lenD, o_lend, o_abs, o_int, o_intB, o_tupT, o_tupR, o_tupl, o_lstT, o_lstR, o_min2, o_max2, o_srt, o_repr, t_b, t_i, t_t, t_r, t_l, t_n, y_t, y_r, y_l, y_bl, z_t, z_r, l_r, l_l, it_sq, it_rng, it_rngC, it_zip, PIt.items_enum, List.getElem?_cons_zero, List.getElem?_cons_succ, List.set_cons_zero, List.set_cons_succ, Option.map_some, Option.bind_some, if_true, and_self, true_and, and_true, reduceIte, Bool.not_true, Bool.not_false, Bool.false_eq_true, Tgs.len, List.length_cons, List.length_nil, Nat.zero_add, Nat.reduceAdd, decide_true, decide_false, isi_i]
/-! ### variables_in -/
def vs : Tm → List Int
  | v n => [(n : Int)]
  | c _ => []
  | u _ a => (a.vs).foldl (fun acc k => putK k acc) []
  | f x y => (y.vs).foldl (fun acc k => putK k acc) ((x.vs).foldl (fun acc k => putK k acc) [])
theorem mem_vs : ∀ (t : Tm) (m : Nat), (m : Int) ∈ t.vs ↔ m ∈ t.vars
  | v n, m => by simp [vs, vars]; omega
  | c b, m => by simp [vs, vars]
  | u b a, m => by simp only [vs, vars, putKs_mem, mem_vs a m]; simp
  | f x y, m => by simp only [vs, vars, putKs_mem, mem_vs x m, mem_vs y m, List.mem_append]; simp; exact Or.comm
theorem vs_len : ∀ (t : Tm), t.vs.length ≤ t.size
  | v n => by simp [vs, size]
  | c b => by simp [vs, size]
  | u b a => by have := vs_len a; have := putKs_len a.vs []; simp [vs, size] at *; omega
  | f x y => by
    have := vs_len x; have := vs_len y
    have h1 := putKs_len x.vs []
    have h2 := putKs_len y.vs (x.vs.foldl (fun acc k => putK k acc) [])
    simp only [vs, size, List.length_nil] at *; omega
theorem size_ht : ∀ t : Tm, t.size + 1 ≤ 2 ^ (t.ht + 1)
  | v n => by simp [size, ht]
  | c b => by simp [size, ht]
  | u b a => by
    have h := size_ht a
    have h2 : 2 ≤ 2 ^ (a.ht + 1) := by rw [Nat.pow_succ]; have := Nat.one_le_two_pow (n := a.ht); omega
    simp only [size, ht]
    rw [Nat.pow_succ (n := 2) (m := a.ht + 1)]
    omega
  | f x y => by
    have h := size_ht x
    have h' := size_ht y
    have m1 : 2 ^ (x.ht + 1) ≤ 2 ^ (max x.ht y.ht + 1) := Nat.pow_le_pow_right (by omega) (by omega)
    have m2 : 2 ^ (y.ht + 1) ≤ 2 ^ (max x.ht y.ht + 1) := Nat.pow_le_pow_right (by omega) (by omega)
    simp only [size, ht]
    rw [Nat.pow_succ (n := 2) (m := max x.ht y.ht + 1)]
    omega
theorem size_le {t : Tm} (h : t.ht ≤ 12) : t.size ≤ 10000 := by
  have h1 := size_ht t
  have h2 : 2 ^ (t.ht + 1) ≤ 2 ^ 13 := Nat.pow_le_pow_right (by omega) (by omega)
  have : (2 : Nat) ^ 13 = 8192 := by decide
  omega
theorem o_dk {ks : List Int} : pmap (.v (.rod (dk ks))) = some (dk ks) := rfl
theorem variables_in_s : ∀ (t : Tm) (M : Nat), t.ht ≤ 12 → t.ht + 2 ≤ M → prun fns G M 1 [.v t.enc] = .ok (.rod (dk t.vs)) := by
  intro t M hb hM
  induction hn : t.ht using Nat.strongRecOn generalizing t M with
  | _ n ih =>
  subst hn
  obtain ⟨N, rfl⟩ : ∃ N, M = N + 1 := ⟨M - 1, by omega⟩
  rw [p_variables_in]
  unfold b_variables_in
  cases hv : t.isv with
  | true =>
    cases t <;> first | (cases hv; done) | skip
    rename_i n
    have e := is_variable_s (t := v n) (M := N) (by omega)
    simp only [pE.eq_1, pE.eq_2, pE.eq_3, pE.eq_4, pE.eq_5, pE.eq_6, pE.eq_7, pE.eq_8, pE.eq_9, pE.eq_10, pE.eq_11, pE.eq_12, pE.eq_13, pE.eq_14, pE.eq_15, pE.eq_16, pE.eq_17, pE.eq_18, pE.eq_19, pE.eq_20, pE.eq_21, pE.eq_22, pE.eq_23, pE.eq_24, pE.eq_25, pE.eq_26, pS.eq_1, pS.eq_2, pS.eq_3, pS.eq_4, pS.eq_5, pS.eq_6, pS.eq_7, pS.eq_8, pS.eq_9, pS.eq_10, pS.eq_11, pS.eq_12, pS.eq_13, pS.eq_14, pS.eq_15, pS.eq_16, pS.eq_17, pS.eq_18, pS.eq_19, pS.eq_22, pS.eq_24, pNew.eq_1, pNew.eq_2, pNew.eq_3, pNew.eq_4, pNew.eq_5, pNew.eq_6, pNew.eq_7, pE_comp, pE_comp2, pE_dcomp, pS_for, isNew, pSs_cons, pSs_nil, q_nx, q_rt, q_bk, q_ct, q_xc, pEs, pAs, pKV, pEo, pC, pIt, pwalk, pTg, pTgs, cB, cBD, pwipe, PR.bind_ok, PR.bind_exc, PR.ofOpt_some, PR.noExc_ok, PR.thenS_ok, PR.thenS_exc, PC.val_v, PRS.noXc, r_nx, r_rt, r_xc, a_v, a_l, a_bl, T.lim, o_add, o_sub, o_mul, o_div, o_mod, o_addT, o_addLL, o_eq, o_ne, o_lt, o_le, o_gt, o_ge, o_isN, o_isnN, o_isB, o_isnB, o_isT, o_isnT, o_isI, o_isnI, o_isL, o_isnL, eqv_int, o_ixT, o_ixR, o_ixl, o_ixbl, o_slcT, o_slcR, o_slcl, o_revT, o_revR, o_lenT, o_lenR, o_lenl, o_lenbl, o_lenD, o_lend, o_abs, o_int, o_intB, o_tupT, o_tupR, o_tupl, o_lstT, o_lstR, o_min2, o_max2, o_srt, o_repr, t_b, t_i, t_t, t_r, t_l, t_n, y_t, y_r, y_l, y_bl, z_t, z_r, l_r, l_l, it_sq, it_rng, it_rngC, it_zip, PIt.items_enum, List.getElem?_cons_zero, List.getElem?_cons_succ, List.set_cons_zero, List.set_cons_succ, Option.map_some, Option.bind_some, if_true, and_self, true_and, and_true, reduceIte, Bool.not_true, Bool.not_false, Bool.false_eq_true, Tgs.len, List.length_cons, List.length_nil, Nat.zero_add, Nat.reduceAdd, decide_true, decide_false, e, isv]
    simp only [pE.eq_1, pE.eq_2, pE.eq_3, pE.eq_4, pE.eq_5, pE.eq_6, pE.eq_7, pE.eq_8, pE.eq_9, pE.eq_10, pE.eq_11, pE.eq_12, pE.eq_13, pE.eq_14, pE.eq_15, pE.eq_16, pE.eq_17, pE.eq_18, pE.eq_19, pE.eq_20, pE.eq_21, pE.eq_22, pE.eq_23, pE.eq_24, pE.eq_25, pE.eq_26, pS.eq_1, pS.eq_2, pS.eq_3, pS.eq_4, pS.eq_5, pS.eq_6, pS.eq_7, pS.eq_8, pS.eq_9, pS.eq_10, pS.eq_11, pS.eq_12, pS.eq_13, pS.eq_14, pS.eq_15, pS.eq_16, pS.eq_17, pS.eq_18, pS.eq_19, pS.eq_22, pS.eq_24, pNew.eq_1, pNew.eq_2, pNew.eq_3, pNew.eq_4, pNew.eq_5, pNew.eq_6, pNew.eq_7, pE_comp, pE_comp2, pE_dcomp, pS_for, isNew, pSs_cons, pSs_nil, q_nx, q_rt, q_bk, q_ct, q_xc, pEs, pAs, pKV, pEo, pC, pIt, pwalk, pTg, pTgs, cB, cBD, pwipe, PR.bind_ok, PR.bind_exc, PR.ofOpt_some, PR.noExc_ok, PR.thenS_ok, PR.thenS_exc, PC.val_v, PRS.noXc, r_nx, r_rt, r_xc, a_v, a_l, a_bl, T.lim, o_add, o_sub, o_mul, o_div, o_mod, o_addT, o_addLL, o_eq, o_ne, o_lt, o_le, o_gt, o_ge, o_isN, o_isnN, o_isB, o_isnB, o_isT, o_isnT, o_isI, o_isnI, o_isL, o_isnL, eqv_int, o_ixT, o_ixR, o_ixl, o_ixbl, o_slcT, o_slcR, o_slcl, o_revT, o_revR, o_lenT, o_lenR, o_lenl, o_lenbl, o_lenD, o_lend, o_abs, o_int, o_intB, o_tupT, o_tupR, o_tupl, o_lstT, o_lstR, o_min2, o_max2, o_srt, o_repr, t_b, t_i, t_t, t_r, t_l, t_n, y_t, y_r, y_l, y_bl, z_t, z_r, l_r, l_l, it_sq, it_rng, it_rngC, it_zip, PIt.items_enum, List.getElem?_cons_zero, List.getElem?_cons_succ, List.set_cons_zero, List.set_cons_succ, Option.map_some, Option.bind_some, if_true, and_self, true_and, and_true, reduceIte, Bool.not_true, Bool.not_false, Bool.false_eq_true, Tgs.len, List.length_cons, List.length_nil, Nat.zero_add, Nat.reduceAdd, decide_true, decide_false, enc]
    rfl
  | false =>
    have e := is_variable_s (t := t) (M := N) (by omega)
    simp only [pE.eq_1, pE.eq_2, pE.eq_3, pE.eq_4, pE.eq_5, pE.eq_6, pE.eq_7, pE.eq_8, pE.eq_9, pE.eq_10, pE.eq_11, pE.eq_12, pE.eq_13, pE.eq_14, pE.eq_15, pE.eq_16, pE.eq_17, pE.eq_18, pE.eq_19, pE.eq_20, pE.eq_21, pE.eq_22, pE.eq_23, pE.eq_24, pE.eq_25, pE.eq_26, pS.eq_1, pS.eq_2, pS.eq_3, pS.eq_4, pS.eq_5, pS.eq_6, pS.eq_7, pS.eq_8, pS.eq_9, pS.eq_10, pS.eq_11, pS.eq_12, pS.eq_13, pS.eq_14, pS.eq_15, pS.eq_16, pS.eq_17, pS.eq_18, pS.eq_19, pS.eq_22, pS.eq_24, pNew.eq_1, pNew.eq_2, pNew.eq_3, pNew.eq_4, pNew.eq_5, pNew.eq_6, pNew.eq_7, pE_comp, pE_comp2, pE_dcomp, pS_for, isNew, pSs_cons, pSs_nil, q_nx, q_rt, q_bk, q_ct, q_xc, pEs, pAs, pKV, pEo, pC, pIt, pwalk, pTg, pTgs, cB, cBD, pwipe, PR.bind_ok, PR.bind_exc, PR.ofOpt_some, PR.noExc_ok, PR.thenS_ok, PR.thenS_exc, PC.val_v, PRS.noXc, r_nx, r_rt, r_xc, a_v, a_l, a_bl, T.lim, o_add, o_sub, o_mul, o_div, o_mod, o_addT, o_addLL, o_eq, o_ne, o_lt, o_le, o_gt, o_ge, o_isN, o_isnN, o_isB, o_isnB, o_isT, o_isnT, o_isI, o_isnI, o_isL, o_isnL, eqv_int, o_ixT, o_ixR, o_ixl, o_ixbl, o_slcT, o_slcR, o_slcl, o_revT, o_revR, o_lenT, o_lenR, o_lenl, o_lenbl, o_lenD, o_lend, o_abs, o_int, o_intB, o_tupT, o_tupR, o_tupl, o_lstT, o_lstR, o_min2, o_max2, o_srt, o_repr, t_b, t_i, t_t, t_r, t_l, t_n, y_t, y_r, y_l, y_bl, z_t, z_r, l_r, l_l, it_sq, it_rng, it_rngC, it_zip, PIt.items_enum, List.getElem?_cons_zero, List.getElem?_cons_succ, List.set_cons_zero, List.set_cons_succ, Option.map_some, Option.bind_some, if_true, and_self, true_and, and_true, reduceIte, Bool.not_true, Bool.not_false, Bool.false_eq_true, Tgs.len, List.length_cons, List.length_nil, Nat.zero_add, Nat.reduceAdd, decide_true, decide_false, e, hv]
    have hfor : ∀ (l : List Tm) (ks : List Int) (o : Option PC), (∀ a ∈ l, a ∈ t.args) → ks.length + (l.map size).sum ≤ 20000 → ∃ o', forI (fun x sl => (pTg (prun fns G N) G (.nm 2) x sl).noExc.thenS sl fun sl => pSs (prun fns G N) G (.cons (.expr (.mcall .update (.var 1) (.cons (.call 1 (.cons (.var 2) .nil)) .nil))) .nil) sl) (l.map enc) [some (.v t.enc), some (.d (dk ks)), o] =
        .nx [some (.v t.enc), some (.d (dk (l.foldl (fun acc a => a.vs.foldl (fun acc k => putK k acc) acc) ks))), o'] := by
      intro l
      induction l with
      | nil => intro ks o _ _; exact ⟨o, rfl⟩
      | cons a l ihl =>
        intro ks o hl hs
        have ha := hl a List.mem_cons_self
        have h1 := ih a.ht (ht_arg ha) a N (by have := ht_arg ha; omega) (by have := ht_arg ha; omega) rfl
        have hz : (dk ks).length + (dk a.vs).length ≤ sizeLine := by
          rw [dk_len, dk_len]
          have := vs_len a
          simp only [List.map_cons, List.sum_cons] at hs
          exact le_size (by omega)
        simp only [List.map_cons, forI]
        have q := ihl (a.vs.foldl (fun acc k => putK k acc) ks) (some (.v a.enc)) (fun b hb => hl b (List.mem_cons_of_mem _ hb)) (by
          have := putKs_len a.vs ks
          have := vs_len a
          simp only [List.map_cons, List.sum_cons] at hs
          omega)
        simp only [pE.eq_1, pE.eq_2, pE.eq_3, pE.eq_4, pE.eq_5, pE.eq_6, pE.eq_7, pE.eq_8, pE.eq_9, pE.eq_10, pE.eq_11, pE.eq_12, pE.eq_13, pE.eq_14, pE.eq_15, pE.eq_16, pE.eq_17, pE.eq_18, pE.eq_19, pE.eq_20, pE.eq_21, pE.eq_22, pE.eq_23, pE.eq_24, pE.eq_25, pE.eq_26, pS.eq_1, pS.eq_2, pS.eq_3, pS.eq_4, pS.eq_5, pS.eq_6, pS.eq_7, pS.eq_8, pS.eq_9, pS.eq_10, pS.eq_11, pS.eq_12, pS.eq_13, pS.eq_14, pS.eq_15, pS.eq_16, pS.eq_17, pS.eq_18, pS.eq_19, pS.eq_22, pS.eq_24, pNew.eq_1, pNew.eq_2, pNew.eq_3, pNew.eq_4, pNew.eq_5, pNew.eq_6, pNew.eq_7, pE_comp, pE_comp2, pE_dcomp, pS_for, isNew, pSs_cons, pSs_nil, q_nx, q_rt, q_bk, q_ct, q_xc, pEs, pAs, pKV, pEo, pC, pIt, pwalk, pTg, pTgs, cB, cBD, pwipe, PR.bind_ok, PR.bind_exc, PR.ofOpt_some, PR.noExc_ok, PR.thenS_ok, PR.thenS_exc, PC.val_v, PRS.noXc, r_nx, r_rt, r_xc, a_v, a_l, a_bl, T.lim, o_add, o_sub, o_mul, o_div, o_mod, o_addT, o_addLL, o_eq, o_ne, o_lt, o_le, o_gt, o_ge, o_isN, o_isnN, o_isB, o_isnB, o_isT, o_isnT, o_isI, o_isnI, o_isL, o_isnL, eqv_int, o_ixT, o_ixR, o_ixl, o_ixbl, o_slcT, o_slcR, o_slcl, o_revT, o_revR, o_lenT, o_lenR, o_lenl, o_lenbl, o_lenD, o_lend, o_abs, o_int, o_intB, o_tupT, o_tupR, o_tupl, o_lstT, o_lstR, o_min2, o_max2, o_srt, o_repr, t_b, t_i, t_t, t_r, t_l, t_n, y_t, y_r, y_l, y_bl, z_t, z_r, l_r, l_l, it_sq, it_rng, it_rngC, it_zip, PIt.items_enum, List.getElem?_cons_zero, List.getElem?_cons_succ, List.set_cons_zero, List.set_cons_succ, Option.map_some, Option.bind_some, if_true, and_self, true_and, and_true, reduceIte, Bool.not_true, Bool.not_false, Bool.false_eq_true, Tgs.len, List.length_cons, List.length_nil, Nat.zero_add, Nat.reduceAdd, decide_true, decide_false] at q
        simp only [pE.eq_1, pE.eq_2, pE.eq_3, pE.eq_4, pE.eq_5, pE.eq_6, pE.eq_7, pE.eq_8, pE.eq_9, pE.eq_10, pE.eq_11, pE.eq_12, pE.eq_13, pE.eq_14, pE.eq_15, pE.eq_16, pE.eq_17, pE.eq_18, pE.eq_19, pE.eq_20, pE.eq_21, pE.eq_22, pE.eq_23, pE.eq_24, pE.eq_25, pE.eq_26, pS.eq_1, pS.eq_2, pS.eq_3, pS.eq_4, pS.eq_5, pS.eq_6, pS.eq_7, pS.eq_8, pS.eq_9, pS.eq_10, pS.eq_11, pS.eq_12, pS.eq_13, pS.eq_14, pS.eq_15, pS.eq_16, pS.eq_17, pS.eq_18, pS.eq_19, pS.eq_22, pS.eq_24, pNew.eq_1, pNew.eq_2, pNew.eq_3, pNew.eq_4, pNew.eq_5, pNew.eq_6, pNew.eq_7, pE_comp, pE_comp2, pE_dcomp, pS_for, isNew, pSs_cons, pSs_nil, q_nx, q_rt, q_bk, q_ct, q_xc, pEs, pAs, pKV, pEo, pC, pIt, pwalk, pTg, pTgs, cB, cBD, pwipe, PR.bind_ok, PR.bind_exc, PR.ofOpt_some, PR.noExc_ok, PR.thenS_ok, PR.thenS_exc, PC.val_v, PRS.noXc, r_nx, r_rt, r_xc, a_v, a_l, a_bl, T.lim, o_add, o_sub, o_mul, o_div, o_mod, o_addT, o_addLL, o_eq, o_ne, o_lt, o_le, o_gt, o_ge, o_isN, o_isnN, o_isB, o_isnB, o_isT, o_isnT, o_isI, o_isnI, o_isL, o_isnL, eqv_int, o_ixT, o_ixR, o_ixl, o_ixbl, o_slcT, o_slcR, o_slcl, o_revT, o_revR, o_lenT, o_lenR, o_lenl, o_lenbl, o_lenD, o_lend, o_abs, o_int, o_intB, o_tupT, o_tupR, o_tupl, o_lstT, o_lstR, o_min2, o_max2, o_srt, o_repr, t_b, t_i, t_t, t_r, t_l, t_n, y_t, y_r, y_l, y_bl, z_t, z_r, l_r, l_l, it_sq, it_rng, it_rngC, it_zip, PIt.items_enum, List.getElem?_cons_zero, List.getElem?_cons_succ, List.set_cons_zero, List.set_cons_succ, Option.map_some, Option.bind_some, if_true, and_self, true_and, and_true, reduceIte, Bool.not_true, Bool.not_false, Bool.false_eq_true, Tgs.len, List.length_cons, List.length_nil, Nat.zero_add, Nat.reduceAdd, decide_true, decide_false, h1, hz, dk_fold]
        exact q
    have hsum : (t.args.map size).sum ≤ 20000 := by
      have := size_le hb
      cases t <;> simp [args, size] at this ⊢ <;> omega
    obtain ⟨o', hf⟩ := hfor t.args [] none (fun a ha => ha) (by simpa using hsum)
    have hd : dk [] = [] := rfl
    rw [hd] at hf
    simp only [pE.eq_1, pE.eq_2, pE.eq_3, pE.eq_4, pE.eq_5, pE.eq_6, pE.eq_7, pE.eq_8, pE.eq_9, pE.eq_10, pE.eq_11, pE.eq_12, pE.eq_13, pE.eq_14, pE.eq_15, pE.eq_16, pE.eq_17, pE.eq_18, pE.eq_19, pE.eq_20, pE.eq_21, pE.eq_22, pE.eq_23, pE.eq_24, pE.eq_25, pE.eq_26, pS.eq_1, pS.eq_2, pS.eq_3, pS.eq_4, pS.eq_5, pS.eq_6, pS.eq_7, pS.eq_8, pS.eq_9, pS.eq_10, pS.eq_11, pS.eq_12, pS.eq_13, pS.eq_14, pS.eq_15, pS.eq_16, pS.eq_17, pS.eq_18, pS.eq_19, pS.eq_22, pS.eq_24, pNew.eq_1, pNew.eq_2, pNew.eq_3, pNew.eq_4, pNew.eq_5, pNew.eq_6, pNew.eq_7, pE_comp, pE_comp2, pE_dcomp, pS_for, isNew, pSs_cons, pSs_nil, q_nx, q_rt, q_bk, q_ct, q_xc, pEs, pAs, pKV, pEo, pC, pIt, pwalk, pTg, pTgs, cB, cBD, pwipe, PR.bind_ok, PR.bind_exc, PR.ofOpt_some, PR.noExc_ok, PR.thenS_ok, PR.thenS_exc, PC.val_v, PRS.noXc, r_nx, r_rt, r_xc, a_v, a_l, a_bl, T.lim, o_add, o_sub, o_mul, o_div, o_mod, o_addT, o_addLL, o_eq, o_ne, o_lt, o_le, o_gt, o_ge, o_isN, o_isnN, o_isB, o_isnB, o_isT, o_isnT, o_isI, o_isnI, o_isL, o_isnL, eqv_int, o_ixT, o_ixR, o_ixl, o_ixbl, o_slcT, o_slcR, o_slcl, o_revT, o_revR, o_lenT, o_lenR, o_lenl, o_lenbl, o_lenD, o_lend, o_abs, o_int, o_intB, o_tupT, o_tupR, o_tupl, o_lstT, o_lstR, o_min2, o_max2, o_srt, o_repr, t_b, t_i, t_t, t_r, t_l, t_n, y_t, y_r, y_l, y_bl, z_t, z_r, l_r, l_l, it_sq, it_rng, it_rngC, it_zip, PIt.items_enum, List.getElem?_cons_zero, List.getElem?_cons_succ, List.set_cons_zero, List.set_cons_succ, Option.map_some, Option.bind_some, if_true, and_self, true_and, and_true, reduceIte, Bool.not_true, Bool.not_false, Bool.false_eq_true, Tgs.len, List.length_cons, List.length_nil, Nat.zero_add, Nat.reduceAdd, decide_true, decide_false] at hf
    simp only [pE.eq_1, pE.eq_2, pE.eq_3, pE.eq_4, pE.eq_5, pE.eq_6, pE.eq_7, pE.eq_8, pE.eq_9, pE.eq_10, pE.eq_11, pE.eq_12, pE.eq_13, pE.eq_14, pE.eq_15, pE.eq_16, pE.eq_17, pE.eq_18, pE.eq_19, pE.eq_20, pE.eq_21, pE.eq_22, pE.eq_23, pE.eq_24, pE.eq_25, pE.eq_26, pS.eq_1, pS.eq_2, pS.eq_3, pS.eq_4, pS.eq_5, pS.eq_6, pS.eq_7, pS.eq_8, pS.eq_9, pS.eq_10, pS.eq_11, pS.eq_12, pS.eq_13, pS.eq_14, pS.eq_15, pS.eq_16, pS.eq_17, pS.eq_18, pS.eq_19, pS.eq_22, pS.eq_24, pNew.eq_1, pNew.eq_2, pNew.eq_3, pNew.eq_4, pNew.eq_5, pNew.eq_6, pNew.eq_7, pE_comp, pE_comp2, pE_dcomp, pS_for, isNew, pSs_cons, pSs_nil, q_nx, q_rt, q_bk, q_ct, q_xc, pEs, pAs, pKV, pEo, pC, pIt, pwalk, pTg, pTgs, cB, cBD, pwipe, PR.bind_ok, PR.bind_exc, PR.ofOpt_some, PR.noExc_ok, PR.thenS_ok, PR.thenS_exc, PC.val_v, PRS.noXc, r_nx, r_rt, r_xc, a_v, a_l, a_bl, T.lim, o_add, o_sub, o_mul, o_div, o_mod, o_addT, o_addLL, o_eq, o_ne, o_lt, o_le, o_gt, o_ge, o_isN, o_isnN, o_isB, o_isnB, o_isT, o_isnT, o_isI, o_isnI, o_isL, o_isnL, eqv_int, o_ixT, o_ixR, o_ixl, o_ixbl, o_slcT, o_slcR, o_slcl, o_revT, o_revR, o_lenT, o_lenR, o_lenl, o_lenbl, o_lenD, o_lend, o_abs, o_int, o_intB, o_tupT, o_tupR, o_tupl, o_lstT, o_lstR, o_min2, o_max2, o_srt, o_repr, t_b, t_i, t_t, t_r, t_l, t_n, y_t, y_r, y_l, y_bl, z_t, z_r, l_r, l_l, it_sq, it_rng, it_rngC, it_zip, PIt.items_enum, List.getElem?_cons_zero, List.getElem?_cons_succ, List.set_cons_zero, List.set_cons_succ, Option.map_some, Option.bind_some, if_true, and_self, true_and, and_true, reduceIte, Bool.not_true, Bool.not_false, Bool.false_eq_true, Tgs.len, List.length_cons, List.length_nil, Nat.zero_add, Nat.reduceAdd, decide_true, decide_false, List.foldl_nil, hf, Nat.zero_le, slc_1 hv, z_t]
    congr 3
    cases t <;> first | (cases hv; done) | rfl
end Tm
end Lw

end

section
set_option Elab.async false
set_option linter.all false
set_option maxRecDepth 100000
set_option maxHeartbeats 4000000
set_option autoImplicit false
/-! K20D: the law's own defs. -/
namespace Lw
open PF PySem
namespace Tm
/-- as drawn -/
def encP : Tm → T
  | v n => .int n
  | c false => .str s_a
  | c true => .str s_b
  | u false a => .tup [.str s_g, a.encP]
  | u true a => .tup [.str s_h, a.encP]
  | f x y => .tup [.str s_f, x.encP, y.encP]
def isc : Tm → Bool
  | c _ => true
  | _ => false
theorem encP_app {s : Tm} (hs : s.isv = false) (hc : s.isc = false) : s.encP = .tup (.str s.nm :: s.args.map encP) := by
  cases s with
  | v n => cases hs
  | c b => cases hc
  | u b a => cases b <;> rfl
  | f x y => rfl
theorem isP_s {t : Tm} : pbfn (.isi .str) [.v t.encP] = .ok (.v (.bl t.isc)) := by
  cases t with
  | v n => rfl
  | c b => cases b <;> rfl
  | u b a => cases b <;> rfl
  | f x y => rfl
theorem isP_i {t : Tm} : pbfn (.isi .int) [.v t.encP] = .ok (.v (.bl t.isv)) := by
  cases t with
  | v n => rfl
  | c b => cases b <;> rfl
  | u b a => cases b <;> rfl
  | f x y => rfl
theorem ixP_0 {t : Tm} (hs : t.isv = false) (hc : t.isc = false) : pix (.v t.encP) (.v (.int 0)) = some (.str t.nm) := by
  rw [encP_app hs hc, o_ixT, show (0 : Int) = ((0 : Nat) : Int) from rfl, ixN_nat (by simp)]
  rfl
theorem cut_1 {x : T} {xs : List T} : cutT (x :: xs) (some 1) none = xs := by
  have h1 : ¬ ((xs.length : Int) + 1 < 1) := by omega
  simp only [cutT, sIx, List.length_cons]
  simp [h1]
theorem slcP_1 {t : Tm} (hs : t.isv = false) (hc : t.isc = false) : pslc (.v t.encP) (some 1) none = .ok (.v (.tup (t.args.map encP))) := by
  rw [encP_app hs hc, o_slcT, cut_1]
theorem le2 {t : Tm} {g : Tm → T} : 1 + (t.args.map g).length ≤ sizeLine := by
  have := args_le t
  rw [List.length_map]
  exact le_size (by omega)
theorem wrap_s : ∀ (t : Tm) (M : Nat), t.ht + 1 ≤ M → prun fns G M 6 [.v t.encP] = .ok t.enc := by
  intro t M hM
  induction hn : t.ht using Nat.strongRecOn generalizing t M with
  | _ n ih =>
  subst hn
  obtain ⟨N, rfl⟩ : ∃ N, M = N + 1 := ⟨M - 1, by omega⟩
  rw [p__law_wrap]
  unfold b__law_wrap
  cases hc : t.isc with
  | true =>
    cases t <;> first | (cases hc; done) | skip
    rename_i b
    have h1 : (1 : Nat) ≤ sizeLine := le_size (by omega)
    simp only [pE.eq_1, pE.eq_2, pE.eq_3, pE.eq_4, pE.eq_5, pE.eq_6, pE.eq_7, pE.eq_8, pE.eq_9, pE.eq_10, pE.eq_11, pE.eq_12, pE.eq_13, pE.eq_14, pE.eq_15, pE.eq_16, pE.eq_17, pE.eq_18, pE.eq_19, pE.eq_20, pE.eq_21, pE.eq_22, pE.eq_23, pE.eq_24, pE.eq_25, pE.eq_26, pS.eq_1, pS.eq_2, pS.eq_3, pS.eq_4, pS.eq_5, pS.eq_6, pS.eq_7, pS.eq_8, pS.eq_9, pS.eq_10, pS.eq_11, pS.eq_12, pS.eq_13, pS.eq_14, pS.eq_15, pS.eq_16, pS.eq_17, pS.eq_18, pS.eq_19, pS.eq_22, pS.eq_24, pNew.eq_1, pNew.eq_2, pNew.eq_3, pNew.eq_4, pNew.eq_5, pNew.eq_6, pNew.eq_7, pE_comp, pE_comp2, pE_dcomp, pS_for, isNew, pSs_cons, pSs_nil, q_nx, q_rt, q_bk, q_ct, q_xc, pEs, pAs, pKV, pEo, pC, pIt, pwalk, pTg, pTgs, cB, cBD, pwipe, PR.bind_ok, PR.bind_exc, PR.ofOpt_some, PR.noExc_ok, PR.thenS_ok, PR.thenS_exc, PC.val_v, PRS.noXc, r_nx, r_rt, r_xc, a_v, a_l, a_bl, T.lim, o_add, o_sub, o_mul, o_div, o_mod, o_addT, o_addLL, o_eq, o_ne, o_lt, o_le, o_gt, o_ge, o_isN, o_isnN, o_isB, o_isnB, o_isT, o_isnT, o_isI, o_isnI, o_isL, o_isnL, eqv_int, o_ixT, o_ixR, o_ixl, o_ixbl, o_slcT, o_slcR, o_slcl, o_revT, o_revR, o_lenT, o_lenR, o_lenl, o_lenbl, o_lenD, o_lend, o_abs, o_int, o_intB, o_tupT, o_tupR, o_tupl, o_lstT, o_lstR, o_min2, o_max2, o_srt, o_repr, t_b, t_i, t_t, t_r, t_l, t_n, y_t, y_r, y_l, y_bl, z_t, z_r, l_r, l_l, it_sq, it_rng, it_rngC, it_zip, PIt.items_enum, List.getElem?_cons_zero, List.getElem?_cons_succ, List.set_cons_zero, List.set_cons_succ, Option.map_some, Option.bind_some, if_true, and_self, true_and, and_true, reduceIte, Bool.not_true, Bool.not_false, Bool.false_eq_true, Tgs.len, List.length_cons, List.length_nil, Nat.zero_add, Nat.reduceAdd, decide_true, decide_false, isP_s, hc, h1]
    cases b <;> simp only [pE.eq_1, pE.eq_2, pE.eq_3, pE.eq_4, pE.eq_5, pE.eq_6, pE.eq_7, pE.eq_8, pE.eq_9, pE.eq_10, pE.eq_11, pE.eq_12, pE.eq_13, pE.eq_14, pE.eq_15, pE.eq_16, pE.eq_17, pE.eq_18, pE.eq_19, pE.eq_20, pE.eq_21, pE.eq_22, pE.eq_23, pE.eq_24, pE.eq_25, pE.eq_26, pS.eq_1, pS.eq_2, pS.eq_3, pS.eq_4, pS.eq_5, pS.eq_6, pS.eq_7, pS.eq_8, pS.eq_9, pS.eq_10, pS.eq_11, pS.eq_12, pS.eq_13, pS.eq_14, pS.eq_15, pS.eq_16, pS.eq_17, pS.eq_18, pS.eq_19, pS.eq_22, pS.eq_24, pNew.eq_1, pNew.eq_2, pNew.eq_3, pNew.eq_4, pNew.eq_5, pNew.eq_6, pNew.eq_7, pE_comp, pE_comp2, pE_dcomp, pS_for, isNew, pSs_cons, pSs_nil, q_nx, q_rt, q_bk, q_ct, q_xc, pEs, pAs, pKV, pEo, pC, pIt, pwalk, pTg, pTgs, cB, cBD, pwipe, PR.bind_ok, PR.bind_exc, PR.ofOpt_some, PR.noExc_ok, PR.thenS_ok, PR.thenS_exc, PC.val_v, PRS.noXc, r_nx, r_rt, r_xc, a_v, a_l, a_bl, T.lim, o_add, o_sub, o_mul, o_div, o_mod, o_addT, o_addLL, o_eq, o_ne, o_lt, o_le, o_gt, o_ge, o_isN, o_isnN, o_isB, o_isnB, o_isT, o_isnT, o_isI, o_isnI, o_isL, o_isnL, eqv_int, o_ixT, o_ixR, o_ixl, o_ixbl, o_slcT, o_slcR, o_slcl, o_revT, o_revR, o_lenT, o_lenR, o_lenl, o_lenbl, o_lenD, o_lend, o_abs, o_int, o_intB, o_tupT, o_tupR, o_tupl, o_lstT, o_lstR, o_min2, o_max2, o_srt, o_repr, t_b, t_i, t_t, t_r, t_l, t_n, y_t, y_r, y_l, y_bl, z_t, z_r, l_r, l_l, it_sq, it_rng, it_rngC, it_zip, PIt.items_enum, List.getElem?_cons_zero, List.getElem?_cons_succ, List.set_cons_zero, List.set_cons_succ, Option.map_some, Option.bind_some, if_true, and_self, true_and, and_true, reduceIte, Bool.not_true, Bool.not_false, Bool.false_eq_true, Tgs.len, List.length_cons, List.length_nil, Nat.zero_add, Nat.reduceAdd, decide_true, decide_false, encP, enc]
  | false =>
    cases hv : t.isv with
    | true =>
      cases t <;> first | (cases hv; done) | skip
      simp only [pE.eq_1, pE.eq_2, pE.eq_3, pE.eq_4, pE.eq_5, pE.eq_6, pE.eq_7, pE.eq_8, pE.eq_9, pE.eq_10, pE.eq_11, pE.eq_12, pE.eq_13, pE.eq_14, pE.eq_15, pE.eq_16, pE.eq_17, pE.eq_18, pE.eq_19, pE.eq_20, pE.eq_21, pE.eq_22, pE.eq_23, pE.eq_24, pE.eq_25, pE.eq_26, pS.eq_1, pS.eq_2, pS.eq_3, pS.eq_4, pS.eq_5, pS.eq_6, pS.eq_7, pS.eq_8, pS.eq_9, pS.eq_10, pS.eq_11, pS.eq_12, pS.eq_13, pS.eq_14, pS.eq_15, pS.eq_16, pS.eq_17, pS.eq_18, pS.eq_19, pS.eq_22, pS.eq_24, pNew.eq_1, pNew.eq_2, pNew.eq_3, pNew.eq_4, pNew.eq_5, pNew.eq_6, pNew.eq_7, pE_comp, pE_comp2, pE_dcomp, pS_for, isNew, pSs_cons, pSs_nil, q_nx, q_rt, q_bk, q_ct, q_xc, pEs, pAs, pKV, pEo, pC, pIt, pwalk, pTg, pTgs, cB, cBD, pwipe, PR.bind_ok, PR.bind_exc, PR.ofOpt_some, PR.noExc_ok, PR.thenS_ok, PR.thenS_exc, PC.val_v, PRS.noXc, r_nx, r_rt, r_xc, a_v, a_l, a_bl, T.lim, o_add, o_sub, o_mul, o_div, o_mod, o_addT, o_addLL, o_eq, o_ne, o_lt, o_le, o_gt, o_ge, o_isN, o_isnN, o_isB, o_isnB, o_isT, o_isnT, o_isI, o_isnI, o_isL, o_isnL, eqv_int, o_ixT, o_ixR, o_ixl, o_ixbl, o_slcT, o_slcR, o_slcl, o_revT, o_revR, o_lenT, o_lenR, o_lenl, o_lenbl, o_lenD, o_lend, o_abs, o_int, o_intB, o_tupT, o_tupR, o_tupl, o_lstT, o_lstR, o_min2, o_max2, o_srt, o_repr, t_b, t_i, t_t, t_r, t_l, t_n, y_t, y_r, y_l, y_bl, z_t, z_r, l_r, l_l, it_sq, it_rng, it_rngC, it_zip, PIt.items_enum, List.getElem?_cons_zero, List.getElem?_cons_succ, List.set_cons_zero, List.set_cons_succ, Option.map_some, Option.bind_some, if_true, and_self, true_and, and_true, reduceIte, Bool.not_true, Bool.not_false, Bool.false_eq_true, Tgs.len, List.length_cons, List.length_nil, Nat.zero_add, Nat.reduceAdd, decide_true, decide_false, isP_s, isP_i, hc, hv]
      rfl
    | false =>
      have h1 : (1 : Nat) ≤ sizeLine := le_size (by omega)
      have hl : t.args.length ≤ sizeLine := le_size (by have := args_le t; omega)
      simp only [pE.eq_1, pE.eq_2, pE.eq_3, pE.eq_4, pE.eq_5, pE.eq_6, pE.eq_7, pE.eq_8, pE.eq_9, pE.eq_10, pE.eq_11, pE.eq_12, pE.eq_13, pE.eq_14, pE.eq_15, pE.eq_16, pE.eq_17, pE.eq_18, pE.eq_19, pE.eq_20, pE.eq_21, pE.eq_22, pE.eq_23, pE.eq_24, pE.eq_25, pE.eq_26, pS.eq_1, pS.eq_2, pS.eq_3, pS.eq_4, pS.eq_5, pS.eq_6, pS.eq_7, pS.eq_8, pS.eq_9, pS.eq_10, pS.eq_11, pS.eq_12, pS.eq_13, pS.eq_14, pS.eq_15, pS.eq_16, pS.eq_17, pS.eq_18, pS.eq_19, pS.eq_22, pS.eq_24, pNew.eq_1, pNew.eq_2, pNew.eq_3, pNew.eq_4, pNew.eq_5, pNew.eq_6, pNew.eq_7, pE_comp, pE_comp2, pE_dcomp, pS_for, isNew, pSs_cons, pSs_nil, q_nx, q_rt, q_bk, q_ct, q_xc, pEs, pAs, pKV, pEo, pC, pIt, pwalk, pTg, pTgs, cB, cBD, pwipe, PR.bind_ok, PR.bind_exc, PR.ofOpt_some, PR.noExc_ok, PR.thenS_ok, PR.thenS_exc, PC.val_v, PRS.noXc, r_nx, r_rt, r_xc, a_v, a_l, a_bl, T.lim, o_add, o_sub, o_mul, o_div, o_mod, o_addT, o_addLL, o_eq, o_ne, o_lt, o_le, o_gt, o_ge, o_isN, o_isnN, o_isB, o_isnB, o_isT, o_isnT, o_isI, o_isnI, o_isL, o_isnL, eqv_int, o_ixT, o_ixR, o_ixl, o_ixbl, o_slcT, o_slcR, o_slcl, o_revT, o_revR, o_lenT, o_lenR, o_lenl, o_lenbl, o_lenD, o_lend, o_abs, o_int, o_intB, o_tupT, o_tupR, o_tupl, o_lstT, o_lstR, o_min2, o_max2, o_srt, o_repr, t_b, t_i, t_t, t_r, t_l, t_n, y_t, y_r, y_l, y_bl, z_t, z_r, l_r, l_l, it_sq, it_rng, it_rngC, it_zip, PIt.items_enum, List.getElem?_cons_zero, List.getElem?_cons_succ, List.set_cons_zero, List.set_cons_succ, Option.map_some, Option.bind_some, if_true, and_self, true_and, and_true, reduceIte, Bool.not_true, Bool.not_false, Bool.false_eq_true, Tgs.len, List.length_cons, List.length_nil, Nat.zero_add, Nat.reduceAdd, decide_true, decide_false, isP_s, isP_i, hc, hv, h1, ixP_0 hv hc, slcP_1 hv hc]
      rw [compI_map (enc := encP) (g := enc) t.args (fun y hy => by
        have h := ih y.ht (ht_arg hy) y N (by have := ht_arg hy; omega) rfl
        simp only [pE.eq_1, pE.eq_2, pE.eq_3, pE.eq_4, pE.eq_5, pE.eq_6, pE.eq_7, pE.eq_8, pE.eq_9, pE.eq_10, pE.eq_11, pE.eq_12, pE.eq_13, pE.eq_14, pE.eq_15, pE.eq_16, pE.eq_17, pE.eq_18, pE.eq_19, pE.eq_20, pE.eq_21, pE.eq_22, pE.eq_23, pE.eq_24, pE.eq_25, pE.eq_26, pS.eq_1, pS.eq_2, pS.eq_3, pS.eq_4, pS.eq_5, pS.eq_6, pS.eq_7, pS.eq_8, pS.eq_9, pS.eq_10, pS.eq_11, pS.eq_12, pS.eq_13, pS.eq_14, pS.eq_15, pS.eq_16, pS.eq_17, pS.eq_18, pS.eq_19, pS.eq_22, pS.eq_24, pNew.eq_1, pNew.eq_2, pNew.eq_3, pNew.eq_4, pNew.eq_5, pNew.eq_6, pNew.eq_7, pE_comp, pE_comp2, pE_dcomp, pS_for, isNew, pSs_cons, pSs_nil, q_nx, q_rt, q_bk, q_ct, q_xc, pEs, pAs, pKV, pEo, pC, pIt, pwalk, pTg, pTgs, cB, cBD, pwipe, PR.bind_ok, PR.bind_exc, PR.ofOpt_some, PR.noExc_ok, PR.thenS_ok, PR.thenS_exc, PC.val_v, PRS.noXc, r_nx, r_rt, r_xc, a_v, a_l, a_bl, T.lim, o_add, o_sub, o_mul, o_div, o_mod, o_addT, o_addLL, o_eq, o_ne, o_lt, o_le, o_gt, o_ge, o_isN, o_isnN, o_isB, o_isnB, o_isT, o_isnT, o_isI, o_isnI, o_isL, o_isnL, eqv_int, o_ixT, o_ixR, o_ixl, o_ixbl, o_slcT, o_slcR, o_slcl, o_revT, o_revR, o_lenT, o_lenR, o_lenl, o_lenbl, o_lenD, o_lend, o_abs, o_int, o_intB, o_tupT, o_tupR, o_tupl, o_lstT, o_lstR, o_min2, o_max2, o_srt, o_repr, t_b, t_i, t_t, t_r, t_l, t_n, y_t, y_r, y_l, y_bl, z_t, z_r, l_r, l_l, it_sq, it_rng, it_rngC, it_zip, PIt.items_enum, List.getElem?_cons_zero, List.getElem?_cons_succ, List.set_cons_zero, List.set_cons_succ, Option.map_some, Option.bind_some, if_true, and_self, true_and, and_true, reduceIte, Bool.not_true, Bool.not_false, Bool.false_eq_true, Tgs.len, List.length_cons, List.length_nil, Nat.zero_add, Nat.reduceAdd, decide_true, decide_false, h]) hl]
      simp only [pE.eq_1, pE.eq_2, pE.eq_3, pE.eq_4, pE.eq_5, pE.eq_6, pE.eq_7, pE.eq_8, pE.eq_9, pE.eq_10, pE.eq_11, pE.eq_12, pE.eq_13, pE.eq_14, pE.eq_15, pE.eq_16, pE.eq_17, pE.eq_18, pE.eq_19, pE.eq_20, pE.eq_21, pE.eq_22, pE.eq_23, pE.eq_24, pE.eq_25, pE.eq_26, pS.eq_1, pS.eq_2, pS.eq_3, pS.eq_4, pS.eq_5, pS.eq_6, pS.eq_7, pS.eq_8, pS.eq_9, pS.eq_10, pS.eq_11, pS.eq_12, pS.eq_13, pS.eq_14, pS.eq_15, pS.eq_16, pS.eq_17, pS.eq_18, pS.eq_19, pS.eq_22, pS.eq_24, pNew.eq_1, pNew.eq_2, pNew.eq_3, pNew.eq_4, pNew.eq_5, pNew.eq_6, pNew.eq_7, pE_comp, pE_comp2, pE_dcomp, pS_for, isNew, pSs_cons, pSs_nil, q_nx, q_rt, q_bk, q_ct, q_xc, pEs, pAs, pKV, pEo, pC, pIt, pwalk, pTg, pTgs, cB, cBD, pwipe, PR.bind_ok, PR.bind_exc, PR.ofOpt_some, PR.noExc_ok, PR.thenS_ok, PR.thenS_exc, PC.val_v, PRS.noXc, r_nx, r_rt, r_xc, a_v, a_l, a_bl, T.lim, o_add, o_sub, o_mul, o_div, o_mod, o_addT, o_addLL, o_eq, o_ne, o_lt, o_le, o_gt, o_ge, o_isN, o_isnN, o_isB, o_isnB, o_isT, o_isnT, o_isI, o_isnI, o_isL, o_isnL, eqv_int, o_ixT, o_ixR, o_ixl, o_ixbl, o_slcT, o_slcR, o_slcl, o_revT, o_revR, o_lenT, o_lenR, o_lenl, o_lenbl, o_lenD, o_lend, o_abs, o_int, o_intB, o_tupT, o_tupR, o_tupl, o_lstT, o_lstR, o_min2, o_max2, o_srt, o_repr, t_b, t_i, t_t, t_r, t_l, t_n, y_t, y_r, y_l, y_bl, z_t, z_r, l_r, l_l, it_sq, it_rng, it_rngC, it_zip, PIt.items_enum, List.getElem?_cons_zero, List.getElem?_cons_succ, List.set_cons_zero, List.set_cons_succ, Option.map_some, Option.bind_some, if_true, and_self, true_and, and_true, reduceIte, Bool.not_true, Bool.not_false, Bool.false_eq_true, Tgs.len, List.length_cons, List.length_nil, Nat.zero_add, Nat.reduceAdd, decide_true, decide_false, le2]
      rw [enc_app hv]
      rfl
/-- values for the variables 0 and 1 -/
def sg (w0 w1 : Tm) : Nat → Tm
  | 0 => w0
  | 1 => w1
  | n => v n
def vals (w0 w1 : Tm) : T := .rod [(.int 0, w0.enc), (.int 1, w1.enc)]
theorem get_vals {w0 w1 : Tm} {n : Nat} : pmfn .get (.v (vals w0 w1)) [.v (.int n), .v (.int n)] = .ok (.v (sg w0 w1 n).enc) := by
  unfold vals
  show (if isKey (.int (n : Int)) then PR.ok (PC.v ((dLook (.int (n : Int)) [(T.int 0, w0.enc), (T.int 1, w1.enc)]).getD (.int n))) else PR.stuck) = _
  simp only [isKey, if_true]
  match n with
  | 0 => rfl
  | 1 => rfl
  | n + 2 =>
    have h0 : ¬ (((n + 2 : Nat) : Int) = 0) := by omega
    have h1 : ¬ (((n + 2 : Nat) : Int) = 1) := by omega
    simp [dLook, keyEq, h0, h1, sg, enc]
    rw [if_neg (by omega), if_neg (by omega)]
    rfl
theorem ok_vals {w0 w1 : Tm} : pmOk .get (.v (vals w0 w1)) = true := rfl
theorem subst_s {w0 w1 : Tm} : ∀ (t : Tm) (M : Nat), t.ht + 1 ≤ M → prun fns G M 8 [.v t.enc, .v (vals w0 w1)] = .ok (t.sub (sg w0 w1)).enc := by
  intro t M hM
  induction hn : t.ht using Nat.strongRecOn generalizing t M with
  | _ n ih =>
  subst hn
  obtain ⟨N, rfl⟩ : ∃ N, M = N + 1 := ⟨M - 1, by omega⟩
  rw [p__law_subst]
  unfold b__law_subst
  cases hv : t.isv with
  | true =>
    cases t <;> first | (cases hv; done) | skip
    simp only [pE.eq_1, pE.eq_2, pE.eq_3, pE.eq_4, pE.eq_5, pE.eq_6, pE.eq_7, pE.eq_8, pE.eq_9, pE.eq_10, pE.eq_11, pE.eq_12, pE.eq_13, pE.eq_14, pE.eq_15, pE.eq_16, pE.eq_17, pE.eq_18, pE.eq_19, pE.eq_20, pE.eq_21, pE.eq_22, pE.eq_23, pE.eq_24, pE.eq_25, pE.eq_26, pS.eq_1, pS.eq_2, pS.eq_3, pS.eq_4, pS.eq_5, pS.eq_6, pS.eq_7, pS.eq_8, pS.eq_9, pS.eq_10, pS.eq_11, pS.eq_12, pS.eq_13, pS.eq_14, pS.eq_15, pS.eq_16, pS.eq_17, pS.eq_18, pS.eq_19, pS.eq_22, pS.eq_24, pNew.eq_1, pNew.eq_2, pNew.eq_3, pNew.eq_4, pNew.eq_5, pNew.eq_6, pNew.eq_7, pE_comp, pE_comp2, pE_dcomp, pS_for, isNew, pSs_cons, pSs_nil, q_nx, q_rt, q_bk, q_ct, q_xc, pEs, pAs, pKV, pEo, pC, pIt, pwalk, pTg, pTgs, cB, cBD, pwipe, PR.bind_ok, PR.bind_exc, PR.ofOpt_some, PR.noExc_ok, PR.thenS_ok, PR.thenS_exc, PC.val_v, PRS.noXc, r_nx, r_rt, r_xc, a_v, a_l, a_bl, T.lim, o_add, o_sub, o_mul, o_div, o_mod, o_addT, o_addLL, o_eq, o_ne, o_lt, o_le, o_gt, o_ge, o_isN, o_isnN, o_isB, o_isnB, o_isT, o_isnT, o_isI, o_isnI, o_isL, o_isnL, eqv_int, o_ixT, o_ixR, o_ixl, o_ixbl, o_slcT, o_slcR, o_slcl, o_revT, o_revR, o_lenT, o_lenR, o_lenl, o_lenbl, o_lenD, o_lend, o_abs, o_int, o_intB, o_tupT, o_tupR, o_tupl, o_lstT, o_lstR, o_min2, o_max2, o_srt, o_repr, t_b, t_i, t_t, t_r, t_l, t_n, y_t, y_r, y_l, y_bl, z_t, z_r, l_r, l_l, it_sq, it_rng, it_rngC, it_zip, PIt.items_enum, List.getElem?_cons_zero, List.getElem?_cons_succ, List.set_cons_zero, List.set_cons_succ, Option.map_some, Option.bind_some, if_true, and_self, true_and, and_true, reduceIte, Bool.not_true, Bool.not_false, Bool.false_eq_true, Tgs.len, List.length_cons, List.length_nil, Nat.zero_add, Nat.reduceAdd, decide_true, decide_false, isi_i, hv, ok_vals]
    simp only [pE.eq_1, pE.eq_2, pE.eq_3, pE.eq_4, pE.eq_5, pE.eq_6, pE.eq_7, pE.eq_8, pE.eq_9, pE.eq_10, pE.eq_11, pE.eq_12, pE.eq_13, pE.eq_14, pE.eq_15, pE.eq_16, pE.eq_17, pE.eq_18, pE.eq_19, pE.eq_20, pE.eq_21, pE.eq_22, pE.eq_23, pE.eq_24, pE.eq_25, pE.eq_26, pS.eq_1, pS.eq_2, pS.eq_3, pS.eq_4, pS.eq_5, pS.eq_6, pS.eq_7, pS.eq_8, pS.eq_9, pS.eq_10, pS.eq_11, pS.eq_12, pS.eq_13, pS.eq_14, pS.eq_15, pS.eq_16, pS.eq_17, pS.eq_18, pS.eq_19, pS.eq_22, pS.eq_24, pNew.eq_1, pNew.eq_2, pNew.eq_3, pNew.eq_4, pNew.eq_5, pNew.eq_6, pNew.eq_7, pE_comp, pE_comp2, pE_dcomp, pS_for, isNew, pSs_cons, pSs_nil, q_nx, q_rt, q_bk, q_ct, q_xc, pEs, pAs, pKV, pEo, pC, pIt, pwalk, pTg, pTgs, cB, cBD, pwipe, PR.bind_ok, PR.bind_exc, PR.ofOpt_some, PR.noExc_ok, PR.thenS_ok, PR.thenS_exc, PC.val_v, PRS.noXc, r_nx, r_rt, r_xc, a_v, a_l, a_bl, T.lim, o_add, o_sub, o_mul, o_div, o_mod, o_addT, o_addLL, o_eq, o_ne, o_lt, o_le, o_gt, o_ge, o_isN, o_isnN, o_isB, o_isnB, o_isT, o_isnT, o_isI, o_isnI, o_isL, o_isnL, eqv_int, o_ixT, o_ixR, o_ixl, o_ixbl, o_slcT, o_slcR, o_slcl, o_revT, o_revR, o_lenT, o_lenR, o_lenl, o_lenbl, o_lenD, o_lend, o_abs, o_int, o_intB, o_tupT, o_tupR, o_tupl, o_lstT, o_lstR, o_min2, o_max2, o_srt, o_repr, t_b, t_i, t_t, t_r, t_l, t_n, y_t, y_r, y_l, y_bl, z_t, z_r, l_r, l_l, it_sq, it_rng, it_rngC, it_zip, PIt.items_enum, List.getElem?_cons_zero, List.getElem?_cons_succ, List.set_cons_zero, List.set_cons_succ, Option.map_some, Option.bind_some, if_true, and_self, true_and, and_true, reduceIte, Bool.not_true, Bool.not_false, Bool.false_eq_true, Tgs.len, List.length_cons, List.length_nil, Nat.zero_add, Nat.reduceAdd, decide_true, decide_false, enc, get_vals]
    rfl
  | false =>
    have h1 : (1 : Nat) ≤ sizeLine := le_size (by omega)
    have hl : t.args.length ≤ sizeLine := le_size (by have := args_le t; omega)
    simp only [pE.eq_1, pE.eq_2, pE.eq_3, pE.eq_4, pE.eq_5, pE.eq_6, pE.eq_7, pE.eq_8, pE.eq_9, pE.eq_10, pE.eq_11, pE.eq_12, pE.eq_13, pE.eq_14, pE.eq_15, pE.eq_16, pE.eq_17, pE.eq_18, pE.eq_19, pE.eq_20, pE.eq_21, pE.eq_22, pE.eq_23, pE.eq_24, pE.eq_25, pE.eq_26, pS.eq_1, pS.eq_2, pS.eq_3, pS.eq_4, pS.eq_5, pS.eq_6, pS.eq_7, pS.eq_8, pS.eq_9, pS.eq_10, pS.eq_11, pS.eq_12, pS.eq_13, pS.eq_14, pS.eq_15, pS.eq_16, pS.eq_17, pS.eq_18, pS.eq_19, pS.eq_22, pS.eq_24, pNew.eq_1, pNew.eq_2, pNew.eq_3, pNew.eq_4, pNew.eq_5, pNew.eq_6, pNew.eq_7, pE_comp, pE_comp2, pE_dcomp, pS_for, isNew, pSs_cons, pSs_nil, q_nx, q_rt, q_bk, q_ct, q_xc, pEs, pAs, pKV, pEo, pC, pIt, pwalk, pTg, pTgs, cB, cBD, pwipe, PR.bind_ok, PR.bind_exc, PR.ofOpt_some, PR.noExc_ok, PR.thenS_ok, PR.thenS_exc, PC.val_v, PRS.noXc, r_nx, r_rt, r_xc, a_v, a_l, a_bl, T.lim, o_add, o_sub, o_mul, o_div, o_mod, o_addT, o_addLL, o_eq, o_ne, o_lt, o_le, o_gt, o_ge, o_isN, o_isnN, o_isB, o_isnB, o_isT, o_isnT, o_isI, o_isnI, o_isL, o_isnL, eqv_int, o_ixT, o_ixR, o_ixl, o_ixbl, o_slcT, o_slcR, o_slcl, o_revT, o_revR, o_lenT, o_lenR, o_lenl, o_lenbl, o_lenD, o_lend, o_abs, o_int, o_intB, o_tupT, o_tupR, o_tupl, o_lstT, o_lstR, o_min2, o_max2, o_srt, o_repr, t_b, t_i, t_t, t_r, t_l, t_n, y_t, y_r, y_l, y_bl, z_t, z_r, l_r, l_l, it_sq, it_rng, it_rngC, it_zip, PIt.items_enum, List.getElem?_cons_zero, List.getElem?_cons_succ, List.set_cons_zero, List.set_cons_succ, Option.map_some, Option.bind_some, if_true, and_self, true_and, and_true, reduceIte, Bool.not_true, Bool.not_false, Bool.false_eq_true, Tgs.len, List.length_cons, List.length_nil, Nat.zero_add, Nat.reduceAdd, decide_true, decide_false, isi_i, hv, h1, ix_0 hv, slc_1 hv]
    rw [compI_map (enc := enc) (g := fun y => (y.sub (sg w0 w1)).enc) t.args (fun y hy => by
      have h := ih y.ht (ht_arg hy) y N (by have := ht_arg hy; omega) rfl
      simp only [pE.eq_1, pE.eq_2, pE.eq_3, pE.eq_4, pE.eq_5, pE.eq_6, pE.eq_7, pE.eq_8, pE.eq_9, pE.eq_10, pE.eq_11, pE.eq_12, pE.eq_13, pE.eq_14, pE.eq_15, pE.eq_16, pE.eq_17, pE.eq_18, pE.eq_19, pE.eq_20, pE.eq_21, pE.eq_22, pE.eq_23, pE.eq_24, pE.eq_25, pE.eq_26, pS.eq_1, pS.eq_2, pS.eq_3, pS.eq_4, pS.eq_5, pS.eq_6, pS.eq_7, pS.eq_8, pS.eq_9, pS.eq_10, pS.eq_11, pS.eq_12, pS.eq_13, pS.eq_14, pS.eq_15, pS.eq_16, pS.eq_17, pS.eq_18, pS.eq_19, pS.eq_22, pS.eq_24, pNew.eq_1, pNew.eq_2, pNew.eq_3, pNew.eq_4, pNew.eq_5, pNew.eq_6, pNew.eq_7, pE_comp, pE_comp2, pE_dcomp, pS_for, isNew, pSs_cons, pSs_nil, q_nx, q_rt, q_bk, q_ct, q_xc, pEs, pAs, pKV, pEo, pC, pIt, pwalk, pTg, pTgs, cB, cBD, pwipe, PR.bind_ok, PR.bind_exc, PR.ofOpt_some, PR.noExc_ok, PR.thenS_ok, PR.thenS_exc, PC.val_v, PRS.noXc, r_nx, r_rt, r_xc, a_v, a_l, a_bl, T.lim, o_add, o_sub, o_mul, o_div, o_mod, o_addT, o_addLL, o_eq, o_ne, o_lt, o_le, o_gt, o_ge, o_isN, o_isnN, o_isB, o_isnB, o_isT, o_isnT, o_isI, o_isnI, o_isL, o_isnL, eqv_int, o_ixT, o_ixR, o_ixl, o_ixbl, o_slcT, o_slcR, o_slcl, o_revT, o_revR, o_lenT, o_lenR, o_lenl, o_lenbl, o_lenD, o_lend, o_abs, o_int, o_intB, o_tupT, o_tupR, o_tupl, o_lstT, o_lstR, o_min2, o_max2, o_srt, o_repr, t_b, t_i, t_t, t_r, t_l, t_n, y_t, y_r, y_l, y_bl, z_t, z_r, l_r, l_l, it_sq, it_rng, it_rngC, it_zip, PIt.items_enum, List.getElem?_cons_zero, List.getElem?_cons_succ, List.set_cons_zero, List.set_cons_succ, Option.map_some, Option.bind_some, if_true, and_self, true_and, and_true, reduceIte, Bool.not_true, Bool.not_false, Bool.false_eq_true, Tgs.len, List.length_cons, List.length_nil, Nat.zero_add, Nat.reduceAdd, decide_true, decide_false, h]) hl]
    simp only [pE.eq_1, pE.eq_2, pE.eq_3, pE.eq_4, pE.eq_5, pE.eq_6, pE.eq_7, pE.eq_8, pE.eq_9, pE.eq_10, pE.eq_11, pE.eq_12, pE.eq_13, pE.eq_14, pE.eq_15, pE.eq_16, pE.eq_17, pE.eq_18, pE.eq_19, pE.eq_20, pE.eq_21, pE.eq_22, pE.eq_23, pE.eq_24, pE.eq_25, pE.eq_26, pS.eq_1, pS.eq_2, pS.eq_3, pS.eq_4, pS.eq_5, pS.eq_6, pS.eq_7, pS.eq_8, pS.eq_9, pS.eq_10, pS.eq_11, pS.eq_12, pS.eq_13, pS.eq_14, pS.eq_15, pS.eq_16, pS.eq_17, pS.eq_18, pS.eq_19, pS.eq_22, pS.eq_24, pNew.eq_1, pNew.eq_2, pNew.eq_3, pNew.eq_4, pNew.eq_5, pNew.eq_6, pNew.eq_7, pE_comp, pE_comp2, pE_dcomp, pS_for, isNew, pSs_cons, pSs_nil, q_nx, q_rt, q_bk, q_ct, q_xc, pEs, pAs, pKV, pEo, pC, pIt, pwalk, pTg, pTgs, cB, cBD, pwipe, PR.bind_ok, PR.bind_exc, PR.ofOpt_some, PR.noExc_ok, PR.thenS_ok, PR.thenS_exc, PC.val_v, PRS.noXc, r_nx, r_rt, r_xc, a_v, a_l, a_bl, T.lim, o_add, o_sub, o_mul, o_div, o_mod, o_addT, o_addLL, o_eq, o_ne, o_lt, o_le, o_gt, o_ge, o_isN, o_isnN, o_isB, o_isnB, o_isT, o_isnT, o_isI, o_isnI, o_isL, o_isnL, eqv_int, o_ixT, o_ixR, o_ixl, o_ixbl, o_slcT, o_slcR, o_slcl, o_revT, o_revR, o_lenT, o_lenR, o_lenl, o_lenbl, o_lenD, o_lend, o_abs, o_int, o_intB, o_tupT, o_tupR, o_tupl, o_lstT, o_lstR, o_min2, o_max2, o_srt, o_repr, t_b, t_i, t_t, t_r, t_l, t_n, y_t, y_r, y_l, y_bl, z_t, z_r, l_r, l_l, it_sq, it_rng, it_rngC, it_zip, PIt.items_enum, List.getElem?_cons_zero, List.getElem?_cons_succ, List.set_cons_zero, List.set_cons_succ, Option.map_some, Option.bind_some, if_true, and_self, true_and, and_true, reduceIte, Bool.not_true, Bool.not_false, Bool.false_eq_true, Tgs.len, List.length_cons, List.length_nil, Nat.zero_add, Nat.reduceAdd, decide_true, decide_false, le2]
    obtain ⟨a1, a2, a3⟩ := sub_args (σ := sg w0 w1) hv
    rw [enc_app a3, a1, List.map_map]
    have : (t.sub (sg w0 w1)).nm = t.nm := by
      cases t with
      | v n => cases hv
      | c b => rfl
      | u b a => cases b <;> rfl
      | f x y => rfl
    rw [this]
    rfl
/-- the variables in order -/
def addL (a l : List Int) : List Int := a ++ l.filter fun k => !decide (k ∈ a)
def lv : Tm → List Int
  | v n => [(n : Int)]
  | c _ => []
  | u _ a => addL [] a.lv
  | f x y => addL (addL [] x.lv) y.lv
theorem mem_addL {a l : List Int} {k : Int} : k ∈ addL a l ↔ k ∈ a ∨ k ∈ l := by
  unfold addL
  rw [List.mem_append, List.mem_filter]
  by_cases h : k ∈ a <;> simp [h]
theorem mem_lv : ∀ (t : Tm) (m : Nat), (m : Int) ∈ t.lv ↔ m ∈ t.vars
  | v n, m => by simp [lv, vars]; omega
  | c b, m => by simp [lv, vars]
  | u b a, m => by simp only [lv, vars, mem_addL, mem_lv a m]; simp
  | f x y, m => by simp only [lv, vars, mem_addL, mem_lv x m, mem_lv y m, List.mem_append]; simp
theorem addL_len (a l : List Int) : (addL a l).length ≤ a.length + l.length := by
  unfold addL
  rw [List.length_append]
  have := List.length_filter_le (fun k => !decide (k ∈ a)) l
  omega
theorem lv_len : ∀ (t : Tm), t.lv.length ≤ t.size
  | v n => by simp [lv, size]
  | c b => by simp [lv, size]
  | u b a => by have := lv_len a; have := addL_len [] a.lv; simp [lv, size] at *; omega
  | f x y => by
    have := lv_len x; have := lv_len y
    have h1 := addL_len [] x.lv
    have h2 := addL_len (addL [] x.lv) y.lv
    simp only [lv, size, List.length_nil] at *; omega
theorem vars_of_s : ∀ (t : Tm) (M : Nat), t.ht ≤ 12 → t.ht + 1 ≤ M → prun fns G M 7 [.v t.enc] = .ok (.rol (t.lv.map .int)) := by
  intro t M hb hM
  induction hn : t.ht using Nat.strongRecOn generalizing t M with
  | _ n ih =>
  subst hn
  obtain ⟨N, rfl⟩ : ∃ N, M = N + 1 := ⟨M - 1, by omega⟩
  rw [p__law_vars_of]
  unfold b__law_vars_of
  cases hv : t.isv with
  | true =>
    cases t <;> first | (cases hv; done) | skip
    have h1 : (1 : Nat) ≤ sizeLine := le_size (by omega)
    simp only [pE.eq_1, pE.eq_2, pE.eq_3, pE.eq_4, pE.eq_5, pE.eq_6, pE.eq_7, pE.eq_8, pE.eq_9, pE.eq_10, pE.eq_11, pE.eq_12, pE.eq_13, pE.eq_14, pE.eq_15, pE.eq_16, pE.eq_17, pE.eq_18, pE.eq_19, pE.eq_20, pE.eq_21, pE.eq_22, pE.eq_23, pE.eq_24, pE.eq_25, pE.eq_26, pS.eq_1, pS.eq_2, pS.eq_3, pS.eq_4, pS.eq_5, pS.eq_6, pS.eq_7, pS.eq_8, pS.eq_9, pS.eq_10, pS.eq_11, pS.eq_12, pS.eq_13, pS.eq_14, pS.eq_15, pS.eq_16, pS.eq_17, pS.eq_18, pS.eq_19, pS.eq_22, pS.eq_24, pNew.eq_1, pNew.eq_2, pNew.eq_3, pNew.eq_4, pNew.eq_5, pNew.eq_6, pNew.eq_7, pE_comp, pE_comp2, pE_dcomp, pS_for, isNew, pSs_cons, pSs_nil, q_nx, q_rt, q_bk, q_ct, q_xc, pEs, pAs, pKV, pEo, pC, pIt, pwalk, pTg, pTgs, cB, cBD, pwipe, PR.bind_ok, PR.bind_exc, PR.ofOpt_some, PR.noExc_ok, PR.thenS_ok, PR.thenS_exc, PC.val_v, PRS.noXc, r_nx, r_rt, r_xc, a_v, a_l, a_bl, T.lim, o_add, o_sub, o_mul, o_div, o_mod, o_addT, o_addLL, o_eq, o_ne, o_lt, o_le, o_gt, o_ge, o_isN, o_isnN, o_isB, o_isnB, o_isT, o_isnT, o_isI, o_isnI, o_isL, o_isnL, eqv_int, o_ixT, o_ixR, o_ixl, o_ixbl, o_slcT, o_slcR, o_slcl, o_revT, o_revR, o_lenT, o_lenR, o_lenl, o_lenbl, o_lenD, o_lend, o_abs, o_int, o_intB, o_tupT, o_tupR, o_tupl, o_lstT, o_lstR, o_min2, o_max2, o_srt, o_repr, t_b, t_i, t_t, t_r, t_l, t_n, y_t, y_r, y_l, y_bl, z_t, z_r, l_r, l_l, it_sq, it_rng, it_rngC, it_zip, PIt.items_enum, List.getElem?_cons_zero, List.getElem?_cons_succ, List.set_cons_zero, List.set_cons_succ, Option.map_some, Option.bind_some, if_true, and_self, true_and, and_true, reduceIte, Bool.not_true, Bool.not_false, Bool.false_eq_true, Tgs.len, List.length_cons, List.length_nil, Nat.zero_add, Nat.reduceAdd, decide_true, decide_false, isi_i, hv]
    simp only [pE.eq_1, pE.eq_2, pE.eq_3, pE.eq_4, pE.eq_5, pE.eq_6, pE.eq_7, pE.eq_8, pE.eq_9, pE.eq_10, pE.eq_11, pE.eq_12, pE.eq_13, pE.eq_14, pE.eq_15, pE.eq_16, pE.eq_17, pE.eq_18, pE.eq_19, pE.eq_20, pE.eq_21, pE.eq_22, pE.eq_23, pE.eq_24, pE.eq_25, pE.eq_26, pS.eq_1, pS.eq_2, pS.eq_3, pS.eq_4, pS.eq_5, pS.eq_6, pS.eq_7, pS.eq_8, pS.eq_9, pS.eq_10, pS.eq_11, pS.eq_12, pS.eq_13, pS.eq_14, pS.eq_15, pS.eq_16, pS.eq_17, pS.eq_18, pS.eq_19, pS.eq_22, pS.eq_24, pNew.eq_1, pNew.eq_2, pNew.eq_3, pNew.eq_4, pNew.eq_5, pNew.eq_6, pNew.eq_7, pE_comp, pE_comp2, pE_dcomp, pS_for, isNew, pSs_cons, pSs_nil, q_nx, q_rt, q_bk, q_ct, q_xc, pEs, pAs, pKV, pEo, pC, pIt, pwalk, pTg, pTgs, cB, cBD, pwipe, PR.bind_ok, PR.bind_exc, PR.ofOpt_some, PR.noExc_ok, PR.thenS_ok, PR.thenS_exc, PC.val_v, PRS.noXc, r_nx, r_rt, r_xc, a_v, a_l, a_bl, T.lim, o_add, o_sub, o_mul, o_div, o_mod, o_addT, o_addLL, o_eq, o_ne, o_lt, o_le, o_gt, o_ge, o_isN, o_isnN, o_isB, o_isnB, o_isT, o_isnT, o_isI, o_isnI, o_isL, o_isnL, eqv_int, o_ixT, o_ixR, o_ixl, o_ixbl, o_slcT, o_slcR, o_slcl, o_revT, o_revR, o_lenT, o_lenR, o_lenl, o_lenbl, o_lenD, o_lend, o_abs, o_int, o_intB, o_tupT, o_tupR, o_tupl, o_lstT, o_lstR, o_min2, o_max2, o_srt, o_repr, t_b, t_i, t_t, t_r, t_l, t_n, y_t, y_r, y_l, y_bl, z_t, z_r, l_r, l_l, it_sq, it_rng, it_rngC, it_zip, PIt.items_enum, List.getElem?_cons_zero, List.getElem?_cons_succ, List.set_cons_zero, List.set_cons_succ, Option.map_some, Option.bind_some, if_true, and_self, true_and, and_true, reduceIte, Bool.not_true, Bool.not_false, Bool.false_eq_true, Tgs.len, List.length_cons, List.length_nil, Nat.zero_add, Nat.reduceAdd, decide_true, decide_false, enc, h1]
    rfl
  | false =>
    have hfor : ∀ (l : List Tm) (ks : List Int) (o : Option PC), (∀ a ∈ l, a ∈ t.args) → ks.length + (l.map size).sum ≤ 20000 → ∃ o', forI (fun x sl => (pTg (prun fns G N) G (.nm 2) x sl).noExc.thenS sl fun sl => pSs (prun fns G N) G (.cons (.asg (.nm 1) (.bin .Add (.var 1) (.comp false (.nm 3) (.val (.call 7 (.cons (.var 2) .nil))) (.some (.cmp .NotIn (.var 3) (.var 1))) (.var 3) [3]))) .nil) sl) (l.map enc) [some (.v t.enc), some (.v (.rol (ks.map .int))), o, none] =
        .nx [some (.v t.enc), some (.v (.rol ((l.foldl (fun acc a => addL acc a.lv) ks).map .int))), o', none] := by
      intro l
      induction l with
      | nil => intro ks o _ _; exact ⟨o, rfl⟩
      | cons a l ihl =>
        intro ks o hl hs
        have ha := hl a List.mem_cons_self
        have h1 := ih a.ht (ht_arg ha) a N (by have := ht_arg ha; omega) (by have := ht_arg ha; omega) rfl
        have hlen := lv_len a
        have hfl := List.length_filter_le (fun k => !decide (k ∈ ks)) a.lv
        have hz : (ks.map T.int).length + ((a.lv.filter fun k => !decide (k ∈ ks)).map T.int).length ≤ sizeLine := by
          rw [List.length_map, List.length_map]
          simp only [List.map_cons, List.sum_cons] at hs
          exact le_size (by omega)
        have hz2 : a.lv.length ≤ sizeLine := by
          simp only [List.map_cons, List.sum_cons] at hs
          exact le_size (by omega)
        have q := ihl (addL ks a.lv) (some (.v a.enc)) (fun b hb => hl b (List.mem_cons_of_mem _ hb)) (by
          have := addL_len ks a.lv
          simp only [List.map_cons, List.sum_cons] at hs
          omega)
        simp only [List.map_cons, forI]
        simp only [pE.eq_1, pE.eq_2, pE.eq_3, pE.eq_4, pE.eq_5, pE.eq_6, pE.eq_7, pE.eq_8, pE.eq_9, pE.eq_10, pE.eq_11, pE.eq_12, pE.eq_13, pE.eq_14, pE.eq_15, pE.eq_16, pE.eq_17, pE.eq_18, pE.eq_19, pE.eq_20, pE.eq_21, pE.eq_22, pE.eq_23, pE.eq_24, pE.eq_25, pE.eq_26, pS.eq_1, pS.eq_2, pS.eq_3, pS.eq_4, pS.eq_5, pS.eq_6, pS.eq_7, pS.eq_8, pS.eq_9, pS.eq_10, pS.eq_11, pS.eq_12, pS.eq_13, pS.eq_14, pS.eq_15, pS.eq_16, pS.eq_17, pS.eq_18, pS.eq_19, pS.eq_22, pS.eq_24, pNew.eq_1, pNew.eq_2, pNew.eq_3, pNew.eq_4, pNew.eq_5, pNew.eq_6, pNew.eq_7, pE_comp, pE_comp2, pE_dcomp, pS_for, isNew, pSs_cons, pSs_nil, q_nx, q_rt, q_bk, q_ct, q_xc, pEs, pAs, pKV, pEo, pC, pIt, pwalk, pTg, pTgs, cB, cBD, pwipe, PR.bind_ok, PR.bind_exc, PR.ofOpt_some, PR.noExc_ok, PR.thenS_ok, PR.thenS_exc, PC.val_v, PRS.noXc, r_nx, r_rt, r_xc, a_v, a_l, a_bl, T.lim, o_add, o_sub, o_mul, o_div, o_mod, o_addT, o_addLL, o_eq, o_ne, o_lt, o_le, o_gt, o_ge, o_isN, o_isnN, o_isB, o_isnB, o_isT, o_isnT, o_isI, o_isnI, o_isL, o_isnL, eqv_int, o_ixT, o_ixR, o_ixl, o_ixbl, o_slcT, o_slcR, o_slcl, o_revT, o_revR, o_lenT, o_lenR, o_lenl, o_lenbl, o_lenD, o_lend, o_abs, o_int, o_intB, o_tupT, o_tupR, o_tupl, o_lstT, o_lstR, o_min2, o_max2, o_srt, o_repr, t_b, t_i, t_t, t_r, t_l, t_n, y_t, y_r, y_l, y_bl, z_t, z_r, l_r, l_l, it_sq, it_rng, it_rngC, it_zip, PIt.items_enum, List.getElem?_cons_zero, List.getElem?_cons_succ, List.set_cons_zero, List.set_cons_succ, Option.map_some, Option.bind_some, if_true, and_self, true_and, and_true, reduceIte, Bool.not_true, Bool.not_false, Bool.false_eq_true, Tgs.len, List.length_cons, List.length_nil, Nat.zero_add, Nat.reduceAdd, decide_true, decide_false] at q
        simp only [pE.eq_1, pE.eq_2, pE.eq_3, pE.eq_4, pE.eq_5, pE.eq_6, pE.eq_7, pE.eq_8, pE.eq_9, pE.eq_10, pE.eq_11, pE.eq_12, pE.eq_13, pE.eq_14, pE.eq_15, pE.eq_16, pE.eq_17, pE.eq_18, pE.eq_19, pE.eq_20, pE.eq_21, pE.eq_22, pE.eq_23, pE.eq_24, pE.eq_25, pE.eq_26, pS.eq_1, pS.eq_2, pS.eq_3, pS.eq_4, pS.eq_5, pS.eq_6, pS.eq_7, pS.eq_8, pS.eq_9, pS.eq_10, pS.eq_11, pS.eq_12, pS.eq_13, pS.eq_14, pS.eq_15, pS.eq_16, pS.eq_17, pS.eq_18, pS.eq_19, pS.eq_22, pS.eq_24, pNew.eq_1, pNew.eq_2, pNew.eq_3, pNew.eq_4, pNew.eq_5, pNew.eq_6, pNew.eq_7, pE_comp, pE_comp2, pE_dcomp, pS_for, isNew, pSs_cons, pSs_nil, q_nx, q_rt, q_bk, q_ct, q_xc, pEs, pAs, pKV, pEo, pC, pIt, pwalk, pTg, pTgs, cB, cBD, pwipe, PR.bind_ok, PR.bind_exc, PR.ofOpt_some, PR.noExc_ok, PR.thenS_ok, PR.thenS_exc, PC.val_v, PRS.noXc, r_nx, r_rt, r_xc, a_v, a_l, a_bl, T.lim, o_add, o_sub, o_mul, o_div, o_mod, o_addT, o_addLL, o_eq, o_ne, o_lt, o_le, o_gt, o_ge, o_isN, o_isnN, o_isB, o_isnB, o_isT, o_isnT, o_isI, o_isnI, o_isL, o_isnL, eqv_int, o_ixT, o_ixR, o_ixl, o_ixbl, o_slcT, o_slcR, o_slcl, o_revT, o_revR, o_lenT, o_lenR, o_lenl, o_lenbl, o_lenD, o_lend, o_abs, o_int, o_intB, o_tupT, o_tupR, o_tupl, o_lstT, o_lstR, o_min2, o_max2, o_srt, o_repr, t_b, t_i, t_t, t_r, t_l, t_n, y_t, y_r, y_l, y_bl, z_t, z_r, l_r, l_l, it_sq, it_rng, it_rngC, it_zip, PIt.items_enum, List.getElem?_cons_zero, List.getElem?_cons_succ, List.set_cons_zero, List.set_cons_succ, Option.map_some, Option.bind_some, if_true, and_self, true_and, and_true, reduceIte, Bool.not_true, Bool.not_false, Bool.false_eq_true, Tgs.len, List.length_cons, List.length_nil, Nat.zero_add, Nat.reduceAdd, decide_true, decide_false, h1]
        rw [compI_filter (enc := T.int) (p := fun k => !decide (k ∈ ks)) (g := T.int) a.lv (fun y hy => by
          simp only [pE.eq_1, pE.eq_2, pE.eq_3, pE.eq_4, pE.eq_5, pE.eq_6, pE.eq_7, pE.eq_8, pE.eq_9, pE.eq_10, pE.eq_11, pE.eq_12, pE.eq_13, pE.eq_14, pE.eq_15, pE.eq_16, pE.eq_17, pE.eq_18, pE.eq_19, pE.eq_20, pE.eq_21, pE.eq_22, pE.eq_23, pE.eq_24, pE.eq_25, pE.eq_26, pS.eq_1, pS.eq_2, pS.eq_3, pS.eq_4, pS.eq_5, pS.eq_6, pS.eq_7, pS.eq_8, pS.eq_9, pS.eq_10, pS.eq_11, pS.eq_12, pS.eq_13, pS.eq_14, pS.eq_15, pS.eq_16, pS.eq_17, pS.eq_18, pS.eq_19, pS.eq_22, pS.eq_24, pNew.eq_1, pNew.eq_2, pNew.eq_3, pNew.eq_4, pNew.eq_5, pNew.eq_6, pNew.eq_7, pE_comp, pE_comp2, pE_dcomp, pS_for, isNew, pSs_cons, pSs_nil, q_nx, q_rt, q_bk, q_ct, q_xc, pEs, pAs, pKV, pEo, pC, pIt, pwalk, pTg, pTgs, cB, cBD, pwipe, PR.bind_ok, PR.bind_exc, PR.ofOpt_some, PR.noExc_ok, PR.thenS_ok, PR.thenS_exc, PC.val_v, PRS.noXc, r_nx, r_rt, r_xc, a_v, a_l, a_bl, T.lim, o_add, o_sub, o_mul, o_div, o_mod, o_addT, o_addLL, o_eq, o_ne, o_lt, o_le, o_gt, o_ge, o_isN, o_isnN, o_isB, o_isnB, o_isT, o_isnT, o_isI, o_isnI, o_isL, o_isnL, eqv_int, o_ixT, o_ixR, o_ixl, o_ixbl, o_slcT, o_slcR, o_slcl, o_revT, o_revR, o_lenT, o_lenR, o_lenl, o_lenbl, o_lenD, o_lend, o_abs, o_int, o_intB, o_tupT, o_tupR, o_tupl, o_lstT, o_lstR, o_min2, o_max2, o_srt, o_repr, t_b, t_i, t_t, t_r, t_l, t_n, y_t, y_r, y_l, y_bl, z_t, z_r, l_r, l_l, it_sq, it_rng, it_rngC, it_zip, PIt.items_enum, List.getElem?_cons_zero, List.getElem?_cons_succ, List.set_cons_zero, List.set_cons_succ, Option.map_some, Option.bind_some, if_true, and_self, true_and, and_true, reduceIte, Bool.not_true, Bool.not_false, Bool.false_eq_true, Tgs.len, List.length_cons, List.length_nil, Nat.zero_add, Nat.reduceAdd, decide_true, decide_false, o_nin, enc_int.pin (by omega) y (l := ks) (p := .v (.rol (ks.map .int))) rfl]
          cases decide (y ∈ ks) <;> rfl) hz2]
        simp only [pE.eq_1, pE.eq_2, pE.eq_3, pE.eq_4, pE.eq_5, pE.eq_6, pE.eq_7, pE.eq_8, pE.eq_9, pE.eq_10, pE.eq_11, pE.eq_12, pE.eq_13, pE.eq_14, pE.eq_15, pE.eq_16, pE.eq_17, pE.eq_18, pE.eq_19, pE.eq_20, pE.eq_21, pE.eq_22, pE.eq_23, pE.eq_24, pE.eq_25, pE.eq_26, pS.eq_1, pS.eq_2, pS.eq_3, pS.eq_4, pS.eq_5, pS.eq_6, pS.eq_7, pS.eq_8, pS.eq_9, pS.eq_10, pS.eq_11, pS.eq_12, pS.eq_13, pS.eq_14, pS.eq_15, pS.eq_16, pS.eq_17, pS.eq_18, pS.eq_19, pS.eq_22, pS.eq_24, pNew.eq_1, pNew.eq_2, pNew.eq_3, pNew.eq_4, pNew.eq_5, pNew.eq_6, pNew.eq_7, pE_comp, pE_comp2, pE_dcomp, pS_for, isNew, pSs_cons, pSs_nil, q_nx, q_rt, q_bk, q_ct, q_xc, pEs, pAs, pKV, pEo, pC, pIt, pwalk, pTg, pTgs, cB, cBD, pwipe, PR.bind_ok, PR.bind_exc, PR.ofOpt_some, PR.noExc_ok, PR.thenS_ok, PR.thenS_exc, PC.val_v, PRS.noXc, r_nx, r_rt, r_xc, a_v, a_l, a_bl, T.lim, o_add, o_sub, o_mul, o_div, o_mod, o_addT, o_addLL, o_eq, o_ne, o_lt, o_le, o_gt, o_ge, o_isN, o_isnN, o_isB, o_isnB, o_isT, o_isnT, o_isI, o_isnI, o_isL, o_isnL, eqv_int, o_ixT, o_ixR, o_ixl, o_ixbl, o_slcT, o_slcR, o_slcl, o_revT, o_revR, o_lenT, o_lenR, o_lenl, o_lenbl, o_lenD, o_lend, o_abs, o_int, o_intB, o_tupT, o_tupR, o_tupl, o_lstT, o_lstR, o_min2, o_max2, o_srt, o_repr, t_b, t_i, t_t, t_r, t_l, t_n, y_t, y_r, y_l, y_bl, z_t, z_r, l_r, l_l, it_sq, it_rng, it_rngC, it_zip, PIt.items_enum, List.getElem?_cons_zero, List.getElem?_cons_succ, List.set_cons_zero, List.set_cons_succ, Option.map_some, Option.bind_some, if_true, and_self, true_and, and_true, reduceIte, Bool.not_true, Bool.not_false, Bool.false_eq_true, Tgs.len, List.length_cons, List.length_nil, Nat.zero_add, Nat.reduceAdd, decide_true, decide_false, hz]
        rw [← List.map_append]
        exact q
    have hsum : (t.args.map size).sum ≤ 20000 := by
      have := size_le hb
      cases t <;> simp [args, size] at this ⊢ <;> omega
    obtain ⟨o', hf⟩ := hfor t.args [] none (fun a ha => ha) (by simpa using hsum)
    simp only [pE.eq_1, pE.eq_2, pE.eq_3, pE.eq_4, pE.eq_5, pE.eq_6, pE.eq_7, pE.eq_8, pE.eq_9, pE.eq_10, pE.eq_11, pE.eq_12, pE.eq_13, pE.eq_14, pE.eq_15, pE.eq_16, pE.eq_17, pE.eq_18, pE.eq_19, pE.eq_20, pE.eq_21, pE.eq_22, pE.eq_23, pE.eq_24, pE.eq_25, pE.eq_26, pS.eq_1, pS.eq_2, pS.eq_3, pS.eq_4, pS.eq_5, pS.eq_6, pS.eq_7, pS.eq_8, pS.eq_9, pS.eq_10, pS.eq_11, pS.eq_12, pS.eq_13, pS.eq_14, pS.eq_15, pS.eq_16, pS.eq_17, pS.eq_18, pS.eq_19, pS.eq_22, pS.eq_24, pNew.eq_1, pNew.eq_2, pNew.eq_3, pNew.eq_4, pNew.eq_5, pNew.eq_6, pNew.eq_7, pE_comp, pE_comp2, pE_dcomp, pS_for, isNew, pSs_cons, pSs_nil, q_nx, q_rt, q_bk, q_ct, q_xc, pEs, pAs, pKV, pEo, pC, pIt, pwalk, pTg, pTgs, cB, cBD, pwipe, PR.bind_ok, PR.bind_exc, PR.ofOpt_some, PR.noExc_ok, PR.thenS_ok, PR.thenS_exc, PC.val_v, PRS.noXc, r_nx, r_rt, r_xc, a_v, a_l, a_bl, T.lim, o_add, o_sub, o_mul, o_div, o_mod, o_addT, o_addLL, o_eq, o_ne, o_lt, o_le, o_gt, o_ge, o_isN, o_isnN, o_isB, o_isnB, o_isT, o_isnT, o_isI, o_isnI, o_isL, o_isnL, eqv_int, o_ixT, o_ixR, o_ixl, o_ixbl, o_slcT, o_slcR, o_slcl, o_revT, o_revR, o_lenT, o_lenR, o_lenl, o_lenbl, o_lenD, o_lend, o_abs, o_int, o_intB, o_tupT, o_tupR, o_tupl, o_lstT, o_lstR, o_min2, o_max2, o_srt, o_repr, t_b, t_i, t_t, t_r, t_l, t_n, y_t, y_r, y_l, y_bl, z_t, z_r, l_r, l_l, it_sq, it_rng, it_rngC, it_zip, PIt.items_enum, List.getElem?_cons_zero, List.getElem?_cons_succ, List.set_cons_zero, List.set_cons_succ, Option.map_some, Option.bind_some, if_true, and_self, true_and, and_true, reduceIte, Bool.not_true, Bool.not_false, Bool.false_eq_true, Tgs.len, List.length_cons, List.length_nil, Nat.zero_add, Nat.reduceAdd, decide_true, decide_false] at hf
    simp only [pE.eq_1, pE.eq_2, pE.eq_3, pE.eq_4, pE.eq_5, pE.eq_6, pE.eq_7, pE.eq_8, pE.eq_9, pE.eq_10, pE.eq_11, pE.eq_12, pE.eq_13, pE.eq_14, pE.eq_15, pE.eq_16, pE.eq_17, pE.eq_18, pE.eq_19, pE.eq_20, pE.eq_21, pE.eq_22, pE.eq_23, pE.eq_24, pE.eq_25, pE.eq_26, pS.eq_1, pS.eq_2, pS.eq_3, pS.eq_4, pS.eq_5, pS.eq_6, pS.eq_7, pS.eq_8, pS.eq_9, pS.eq_10, pS.eq_11, pS.eq_12, pS.eq_13, pS.eq_14, pS.eq_15, pS.eq_16, pS.eq_17, pS.eq_18, pS.eq_19, pS.eq_22, pS.eq_24, pNew.eq_1, pNew.eq_2, pNew.eq_3, pNew.eq_4, pNew.eq_5, pNew.eq_6, pNew.eq_7, pE_comp, pE_comp2, pE_dcomp, pS_for, isNew, pSs_cons, pSs_nil, q_nx, q_rt, q_bk, q_ct, q_xc, pEs, pAs, pKV, pEo, pC, pIt, pwalk, pTg, pTgs, cB, cBD, pwipe, PR.bind_ok, PR.bind_exc, PR.ofOpt_some, PR.noExc_ok, PR.thenS_ok, PR.thenS_exc, PC.val_v, PRS.noXc, r_nx, r_rt, r_xc, a_v, a_l, a_bl, T.lim, o_add, o_sub, o_mul, o_div, o_mod, o_addT, o_addLL, o_eq, o_ne, o_lt, o_le, o_gt, o_ge, o_isN, o_isnN, o_isB, o_isnB, o_isT, o_isnT, o_isI, o_isnI, o_isL, o_isnL, eqv_int, o_ixT, o_ixR, o_ixl, o_ixbl, o_slcT, o_slcR, o_slcl, o_revT, o_revR, o_lenT, o_lenR, o_lenl, o_lenbl, o_lenD, o_lend, o_abs, o_int, o_intB, o_tupT, o_tupR, o_tupl, o_lstT, o_lstR, o_min2, o_max2, o_srt, o_repr, t_b, t_i, t_t, t_r, t_l, t_n, y_t, y_r, y_l, y_bl, z_t, z_r, l_r, l_l, it_sq, it_rng, it_rngC, it_zip, PIt.items_enum, List.getElem?_cons_zero, List.getElem?_cons_succ, List.set_cons_zero, List.set_cons_succ, Option.map_some, Option.bind_some, if_true, and_self, true_and, and_true, reduceIte, Bool.not_true, Bool.not_false, Bool.false_eq_true, Tgs.len, List.length_cons, List.length_nil, Nat.zero_add, Nat.reduceAdd, decide_true, decide_false, isi_i, hv, slc_1 hv, Nat.zero_le]
    simp only [List.map_nil] at hf
    rw [hf]
    simp only [pE.eq_1, pE.eq_2, pE.eq_3, pE.eq_4, pE.eq_5, pE.eq_6, pE.eq_7, pE.eq_8, pE.eq_9, pE.eq_10, pE.eq_11, pE.eq_12, pE.eq_13, pE.eq_14, pE.eq_15, pE.eq_16, pE.eq_17, pE.eq_18, pE.eq_19, pE.eq_20, pE.eq_21, pE.eq_22, pE.eq_23, pE.eq_24, pE.eq_25, pE.eq_26, pS.eq_1, pS.eq_2, pS.eq_3, pS.eq_4, pS.eq_5, pS.eq_6, pS.eq_7, pS.eq_8, pS.eq_9, pS.eq_10, pS.eq_11, pS.eq_12, pS.eq_13, pS.eq_14, pS.eq_15, pS.eq_16, pS.eq_17, pS.eq_18, pS.eq_19, pS.eq_22, pS.eq_24, pNew.eq_1, pNew.eq_2, pNew.eq_3, pNew.eq_4, pNew.eq_5, pNew.eq_6, pNew.eq_7, pE_comp, pE_comp2, pE_dcomp, pS_for, isNew, pSs_cons, pSs_nil, q_nx, q_rt, q_bk, q_ct, q_xc, pEs, pAs, pKV, pEo, pC, pIt, pwalk, pTg, pTgs, cB, cBD, pwipe, PR.bind_ok, PR.bind_exc, PR.ofOpt_some, PR.noExc_ok, PR.thenS_ok, PR.thenS_exc, PC.val_v, PRS.noXc, r_nx, r_rt, r_xc, a_v, a_l, a_bl, T.lim, o_add, o_sub, o_mul, o_div, o_mod, o_addT, o_addLL, o_eq, o_ne, o_lt, o_le, o_gt, o_ge, o_isN, o_isnN, o_isB, o_isnB, o_isT, o_isnT, o_isI, o_isnI, o_isL, o_isnL, eqv_int, o_ixT, o_ixR, o_ixl, o_ixbl, o_slcT, o_slcR, o_slcl, o_revT, o_revR, o_lenT, o_lenR, o_lenl, o_lenbl, o_lenD, o_lend, o_abs, o_int, o_intB, o_tupT, o_tupR, o_tupl, o_lstT, o_lstR, o_min2, o_max2, o_srt, o_repr, t_b, t_i, t_t, t_r, t_l, t_n, y_t, y_r, y_l, y_bl, z_t, z_r, l_r, l_l, it_sq, it_rng, it_rngC, it_zip, PIt.items_enum, List.getElem?_cons_zero, List.getElem?_cons_succ, List.set_cons_zero, List.set_cons_succ, Option.map_some, Option.bind_some, if_true, and_self, true_and, and_true, reduceIte, Bool.not_true, Bool.not_false, Bool.false_eq_true, Tgs.len, List.length_cons, List.length_nil, Nat.zero_add, Nat.reduceAdd, decide_true, decide_false]
    congr 3
    cases t <;> first | (cases hv; done) | rfl
end Tm
end Lw

end

section
set_option Elab.async false
set_option linter.all false
set_option maxRecDepth 100000
set_option maxHeartbeats 4000000
set_option autoImplicit false
/-! K20E: the law's own path order. -/
namespace Lw
open PF PySem
namespace Tm
/-- a row of all functions -/
structure RowOk (rw : List Str) (p : Nat → Nat) : Prop where
  idx : ∀ t : Tm, t.isv = false → idxS t.nm rw = some (p t.sym)
  ord : Ord p
def erow (rw : List Str) : T := .ctp (rw.map .str)
theorem strsOf_map : ∀ l : List Str, strsOf (l.map .str) = some l
  | [] => rfl
  | x :: l => by simp only [List.map_cons, strsOf, strsOf_map l, Option.map_some]
theorem index_e {rw : List Str} {p : Nat → Nat} (R : RowOk rw p) {t : Tm} (h : t.isv = false) : pmfn .index (.v (erow rw)) [.v (.str t.nm)] = .ok (.v (.int (p t.sym))) := by
  show (match (strsOf (rw.map .str)).bind (idxS t.nm) with | some j => PR.ok (PC.v (.int (j : Int))) | none => .stuck) = _
  rw [strsOf_map, Option.bind_some, R.idx t h]
theorem ok_index {rw : List Str} : pmOk .index (.v (erow rw)) = true := rfl
theorem lt_cast {a b : Nat} : decide ((a : Int) < (b : Int)) = decide (a < b) := by
  rw [Bool.eq_iff_iff]; simp
theorem row_find2 {g : Tm → Tm → Bool} {a b : List Tm} (h : a.length = b.length) (h2 : a.length ≤ 2) :
    (((List.range a.length).filter fun i => !decide (a[i]? = b[i]?)) = [] ∧ row g a b = false) ∨ ∃ i r x y, ((List.range a.length).filter fun i => !decide (a[i]? = b[i]?)) = i :: r ∧ a[i]? = some x ∧ b[i]? = some y ∧ row g a b = g x y := by
  match a, b, h with
  | [], [], _ => exact .inl ⟨rfl, rfl⟩
  | [x], [y], _ =>
    by_cases e : x = y
    · subst e; exact .inl ⟨by simp [List.range_succ], by simp [row]⟩
    · exact .inr ⟨0, [], x, y, by simp [List.range_succ, e], rfl, rfl, by simp [row, e]⟩
  | [x, x'], [y, y'], _ =>
    by_cases e : x = y
    · subst e
      by_cases e2 : x' = y'
      · subst e2; exact .inl ⟨by simp [List.range_succ], by simp [row]⟩
      · exact .inr ⟨1, [], x', y', by simp [List.range_succ, e2], rfl, rfl, by simp [row, e2]⟩
    · by_cases e2 : x' = y'
      · exact .inr ⟨0, [], x, y, by simp [List.range_succ, e, e2], rfl, rfl, by simp [row, e]⟩
      · exact .inr ⟨0, [1], x, y, by simp [List.range_succ, e, e2], rfl, rfl, by simp [row, e]⟩
  | _ :: _ :: _ :: _, _, _ => simp at h2
theorem gt_var {p : Nat → Nat} {s t : Tm} (hs : s.isv = true) : gt p s t = false := by rw [gt_eq, hs]; rfl
theorem gt_v {p : Nat → Nat} {s : Tm} {n : Nat} (hs : s.isv = false) : gt p s (v n) = decide (n ∈ s.vars) := by rw [gt_eq, hs]; rfl
theorem gt_nv {p : Nat → Nat} {s t : Tm} (hs : s.isv = false) (ht : t.isv = false) : gt p s t = if s.args.any (fun x => decide (x = t) || gt p x t) then true
      else if decide (p t.sym < p s.sym) || !(t.args.all fun y => gt p s y) then false
      else decide (p s.sym < p t.sym) || row (gt p) s.args t.args := by
  rw [gt_eq, hs]
  cases t <;> first | (cases ht; done) | rfl
theorem greater_s {rw : List Str} {p : Nat → Nat} (R : RowOk rw p) : ∀ (m : Nat) (s t : Tm) (M : Nat), s.ht + t.ht ≤ m → s.ht ≤ 12 → t.ht ≤ 12 → m + 14 ≤ M → prun fns G M 9 [.v (erow rw), .v s.enc, .v t.enc] = .ok (.bl (gt p s t)) := by
  intro m
  induction m with
  | zero =>
    intro s t M h1 h2 h3 h4
    exact greater_step 0 s t M h1 h2 h3 h4 fun s' t' M' q _ _ _ => by omega
  | succ m ih =>
    intro s t M h1 h2 h3 h4
    exact greater_step (m + 1) s t M h1 h2 h3 h4 fun s' t' M' q q2 q3 q4 => ih s' t' M' (by omega) q2 q3 (by omega)
where
  greater_step : ∀ (m : Nat) (s t : Tm) (M : Nat), s.ht + t.ht ≤ m → s.ht ≤ 12 → t.ht ≤ 12 → m + 14 ≤ M → (∀ s' t' : Tm, ∀ M', s'.ht + t'.ht + 1 ≤ m → s'.ht ≤ 12 → t'.ht ≤ 12 → m + 13 ≤ M' → prun fns G M' 9 [.v (erow rw), .v s'.enc, .v t'.enc] = .ok (.bl (gt p s' t'))) → prun fns G M 9 [.v (erow rw), .v s.enc, .v t.enc] = .ok (.bl (gt p s t)) := by
    intro m s t M h1 h2 h3 h4 ih
    obtain ⟨N, rfl⟩ : ∃ N, M = N + 1 := ⟨M - 1, by omega⟩
    rw [p__law_greater]
    unfold b__law_greater
    cases hs : s.isv with
    | true => simp only [pE.eq_1, pE.eq_2, pE.eq_3, pE.eq_4, pE.eq_5, pE.eq_6, pE.eq_7, pE.eq_8, pE.eq_9, pE.eq_10, pE.eq_11, pE.eq_12, pE.eq_13, pE.eq_14, pE.eq_15, pE.eq_16, pE.eq_17, pE.eq_18, pE.eq_19, pE.eq_20, pE.eq_21, pE.eq_22, pE.eq_23, pE.eq_24, pE.eq_25, pE.eq_26, pS.eq_1, pS.eq_2, pS.eq_3, pS.eq_4, pS.eq_5, pS.eq_6, pS.eq_7, pS.eq_8, pS.eq_9, pS.eq_10, pS.eq_11, pS.eq_12, pS.eq_13, pS.eq_14, pS.eq_15, pS.eq_16, pS.eq_17, pS.eq_18, pS.eq_19, pS.eq_22, pS.eq_24, pNew.eq_1, pNew.eq_2, pNew.eq_3, pNew.eq_4, pNew.eq_5, pNew.eq_6, pNew.eq_7, pE_comp, pE_comp2, pE_dcomp, pS_for, isNew, pSs_cons, pSs_nil, q_nx, q_rt, q_bk, q_ct, q_xc, pEs, pAs, pKV, pEo, pC, pIt, pwalk, pTg, pTgs, cB, cBD, pwipe, PR.bind_ok, PR.bind_exc, PR.ofOpt_some, PR.noExc_ok, PR.thenS_ok, PR.thenS_exc, PC.val_v, PRS.noXc, r_nx, r_rt, r_xc, a_v, a_l, a_bl, T.lim, o_add, o_sub, o_mul, o_div, o_mod, o_addT, o_addLL, o_eq, o_ne, o_lt, o_le, o_gt, o_ge, o_isN, o_isnN, o_isB, o_isnB, o_isT, o_isnT, o_isI, o_isnI, o_isL, o_isnL, eqv_int, o_ixT, o_ixR, o_ixl, o_ixbl, o_slcT, o_slcR, o_slcl, o_revT, o_revR, o_lenT, o_lenR, o_lenl, o_lenbl, o_lenD, o_lend, o_abs, o_int, o_intB, o_tupT, o_tupR, o_tupl, o_lstT, o_lstR, o_min2, o_max2, o_srt, o_repr, t_b, t_i, t_t, t_r, t_l, t_n, y_t, y_r, y_l, y_bl, z_t, z_r, l_r, l_l, it_sq, it_rng, it_rngC, it_zip, PIt.items_enum, List.getElem?_cons_zero, List.getElem?_cons_succ, List.set_cons_zero, List.set_cons_succ, Option.map_some, Option.bind_some, if_true, and_self, true_and, and_true, reduceIte, Bool.not_true, Bool.not_false, Bool.false_eq_true, Tgs.len, List.length_cons, List.length_nil, Nat.zero_add, Nat.reduceAdd, decide_true, decide_false, isi_i, hs, gt_var hs]
    | false =>
      cases ht : t.isv with
      | true =>
        cases t <;> first | (cases ht; done) | skip
        rename_i n
        have hv := vars_of_s s N h2 (by omega)
        have hp := enc_int.pin (by omega) (n : Int) (l := s.lv) (p := .v (.rol (s.lv.map .int))) rfl
        simp only [pE.eq_1, pE.eq_2, pE.eq_3, pE.eq_4, pE.eq_5, pE.eq_6, pE.eq_7, pE.eq_8, pE.eq_9, pE.eq_10, pE.eq_11, pE.eq_12, pE.eq_13, pE.eq_14, pE.eq_15, pE.eq_16, pE.eq_17, pE.eq_18, pE.eq_19, pE.eq_20, pE.eq_21, pE.eq_22, pE.eq_23, pE.eq_24, pE.eq_25, pE.eq_26, pS.eq_1, pS.eq_2, pS.eq_3, pS.eq_4, pS.eq_5, pS.eq_6, pS.eq_7, pS.eq_8, pS.eq_9, pS.eq_10, pS.eq_11, pS.eq_12, pS.eq_13, pS.eq_14, pS.eq_15, pS.eq_16, pS.eq_17, pS.eq_18, pS.eq_19, pS.eq_22, pS.eq_24, pNew.eq_1, pNew.eq_2, pNew.eq_3, pNew.eq_4, pNew.eq_5, pNew.eq_6, pNew.eq_7, pE_comp, pE_comp2, pE_dcomp, pS_for, isNew, pSs_cons, pSs_nil, q_nx, q_rt, q_bk, q_ct, q_xc, pEs, pAs, pKV, pEo, pC, pIt, pwalk, pTg, pTgs, cB, cBD, pwipe, PR.bind_ok, PR.bind_exc, PR.ofOpt_some, PR.noExc_ok, PR.thenS_ok, PR.thenS_exc, PC.val_v, PRS.noXc, r_nx, r_rt, r_xc, a_v, a_l, a_bl, T.lim, o_add, o_sub, o_mul, o_div, o_mod, o_addT, o_addLL, o_eq, o_ne, o_lt, o_le, o_gt, o_ge, o_isN, o_isnN, o_isB, o_isnB, o_isT, o_isnT, o_isI, o_isnI, o_isL, o_isnL, eqv_int, o_ixT, o_ixR, o_ixl, o_ixbl, o_slcT, o_slcR, o_slcl, o_revT, o_revR, o_lenT, o_lenR, o_lenl, o_lenbl, o_lenD, o_lend, o_abs, o_int, o_intB, o_tupT, o_tupR, o_tupl, o_lstT, o_lstR, o_min2, o_max2, o_srt, o_repr, t_b, t_i, t_t, t_r, t_l, t_n, y_t, y_r, y_l, y_bl, z_t, z_r, l_r, l_l, it_sq, it_rng, it_rngC, it_zip, PIt.items_enum, List.getElem?_cons_zero, List.getElem?_cons_succ, List.set_cons_zero, List.set_cons_succ, Option.map_some, Option.bind_some, if_true, and_self, true_and, and_true, reduceIte, Bool.not_true, Bool.not_false, Bool.false_eq_true, Tgs.len, List.length_cons, List.length_nil, Nat.zero_add, Nat.reduceAdd, decide_true, decide_false, isi_i, hs, ht, hv]
        rw [gt_v hs]
        simp only [pE.eq_1, pE.eq_2, pE.eq_3, pE.eq_4, pE.eq_5, pE.eq_6, pE.eq_7, pE.eq_8, pE.eq_9, pE.eq_10, pE.eq_11, pE.eq_12, pE.eq_13, pE.eq_14, pE.eq_15, pE.eq_16, pE.eq_17, pE.eq_18, pE.eq_19, pE.eq_20, pE.eq_21, pE.eq_22, pE.eq_23, pE.eq_24, pE.eq_25, pE.eq_26, pS.eq_1, pS.eq_2, pS.eq_3, pS.eq_4, pS.eq_5, pS.eq_6, pS.eq_7, pS.eq_8, pS.eq_9, pS.eq_10, pS.eq_11, pS.eq_12, pS.eq_13, pS.eq_14, pS.eq_15, pS.eq_16, pS.eq_17, pS.eq_18, pS.eq_19, pS.eq_22, pS.eq_24, pNew.eq_1, pNew.eq_2, pNew.eq_3, pNew.eq_4, pNew.eq_5, pNew.eq_6, pNew.eq_7, pE_comp, pE_comp2, pE_dcomp, pS_for, isNew, pSs_cons, pSs_nil, q_nx, q_rt, q_bk, q_ct, q_xc, pEs, pAs, pKV, pEo, pC, pIt, pwalk, pTg, pTgs, cB, cBD, pwipe, PR.bind_ok, PR.bind_exc, PR.ofOpt_some, PR.noExc_ok, PR.thenS_ok, PR.thenS_exc, PC.val_v, PRS.noXc, r_nx, r_rt, r_xc, a_v, a_l, a_bl, T.lim, o_add, o_sub, o_mul, o_div, o_mod, o_addT, o_addLL, o_eq, o_ne, o_lt, o_le, o_gt, o_ge, o_isN, o_isnN, o_isB, o_isnB, o_isT, o_isnT, o_isI, o_isnI, o_isL, o_isnL, eqv_int, o_ixT, o_ixR, o_ixl, o_ixbl, o_slcT, o_slcR, o_slcl, o_revT, o_revR, o_lenT, o_lenR, o_lenl, o_lenbl, o_lenD, o_lend, o_abs, o_int, o_intB, o_tupT, o_tupR, o_tupl, o_lstT, o_lstR, o_min2, o_max2, o_srt, o_repr, t_b, t_i, t_t, t_r, t_l, t_n, y_t, y_r, y_l, y_bl, z_t, z_r, l_r, l_l, it_sq, it_rng, it_rngC, it_zip, PIt.items_enum, List.getElem?_cons_zero, List.getElem?_cons_succ, List.set_cons_zero, List.set_cons_succ, Option.map_some, Option.bind_some, if_true, and_self, true_and, and_true, reduceIte, Bool.not_true, Bool.not_false, Bool.false_eq_true, Tgs.len, List.length_cons, List.length_nil, Nat.zero_add, Nat.reduceAdd, decide_true, decide_false, enc, o_in, hp]
        congr 2
        rw [Bool.eq_iff_iff, decide_eq_true_eq, decide_eq_true_eq, mem_lv]
      | false =>
        have hla : s.args.length ≤ sizeLine := le_size (by have := args_le s; omega)
        have hlb : t.args.length ≤ sizeLine := le_size (by have := args_le t; omega)
        have cany : compI (cB (prun fns G N) G (.nm 7) .none (.or (.cmp .Eq (.var 7) (.var 2)) (.call 9 (.cons (.var 0) (.cons (.var 7) (.cons (.var 2) .nil))))) [7] [some (.v (erow rw)), some (.v s.enc), some (.v t.enc), none, none, none, none, none]) (s.args.map enc) [] = .ok (s.args.map fun x => .bl (decide (x = t) || gt p x t)) :=
          compI_map (enc := enc) (g := fun x => .bl (decide (x = t) || gt p x t)) s.args (fun y hy => by
            have h := ih y t N (by have := ht_arg hy; omega) (by have := ht_arg hy; omega) h3 (by omega)
            simp only [pE.eq_1, pE.eq_2, pE.eq_3, pE.eq_4, pE.eq_5, pE.eq_6, pE.eq_7, pE.eq_8, pE.eq_9, pE.eq_10, pE.eq_11, pE.eq_12, pE.eq_13, pE.eq_14, pE.eq_15, pE.eq_16, pE.eq_17, pE.eq_18, pE.eq_19, pE.eq_20, pE.eq_21, pE.eq_22, pE.eq_23, pE.eq_24, pE.eq_25, pE.eq_26, pS.eq_1, pS.eq_2, pS.eq_3, pS.eq_4, pS.eq_5, pS.eq_6, pS.eq_7, pS.eq_8, pS.eq_9, pS.eq_10, pS.eq_11, pS.eq_12, pS.eq_13, pS.eq_14, pS.eq_15, pS.eq_16, pS.eq_17, pS.eq_18, pS.eq_19, pS.eq_22, pS.eq_24, pNew.eq_1, pNew.eq_2, pNew.eq_3, pNew.eq_4, pNew.eq_5, pNew.eq_6, pNew.eq_7, pE_comp, pE_comp2, pE_dcomp, pS_for, isNew, pSs_cons, pSs_nil, q_nx, q_rt, q_bk, q_ct, q_xc, pEs, pAs, pKV, pEo, pC, pIt, pwalk, pTg, pTgs, cB, cBD, pwipe, PR.bind_ok, PR.bind_exc, PR.ofOpt_some, PR.noExc_ok, PR.thenS_ok, PR.thenS_exc, PC.val_v, PRS.noXc, r_nx, r_rt, r_xc, a_v, a_l, a_bl, T.lim, o_add, o_sub, o_mul, o_div, o_mod, o_addT, o_addLL, o_eq, o_ne, o_lt, o_le, o_gt, o_ge, o_isN, o_isnN, o_isB, o_isnB, o_isT, o_isnT, o_isI, o_isnI, o_isL, o_isnL, eqv_int, o_ixT, o_ixR, o_ixl, o_ixbl, o_slcT, o_slcR, o_slcl, o_revT, o_revR, o_lenT, o_lenR, o_lenl, o_lenbl, o_lenD, o_lend, o_abs, o_int, o_intB, o_tupT, o_tupR, o_tupl, o_lstT, o_lstR, o_min2, o_max2, o_srt, o_repr, t_b, t_i, t_t, t_r, t_l, t_n, y_t, y_r, y_l, y_bl, z_t, z_r, l_r, l_l, it_sq, it_rng, it_rngC, it_zip, PIt.items_enum, List.getElem?_cons_zero, List.getElem?_cons_succ, List.set_cons_zero, List.set_cons_succ, Option.map_some, Option.bind_some, if_true, and_self, true_and, and_true, reduceIte, Bool.not_true, Bool.not_false, Bool.false_eq_true, Tgs.len, List.length_cons, List.length_nil, Nat.zero_add, Nat.reduceAdd, decide_true, decide_false, peq_t (s := y) (t := t) (by have := ht_arg hy; omega), h]
            cases decide (y = t) <;> rfl) hla
        have call_ : ∀ o4 o5 : Option PC, compI (cB (prun fns G N) G (.nm 7) .none (.call 9 (.cons (.var 0) (.cons (.var 1) (.cons (.var 7) .nil)))) [7] [some (.v (erow rw)), some (.v s.enc), some (.v t.enc), none, o4, o5, none, none]) (t.args.map enc) [] = .ok (t.args.map fun y => .bl (gt p s y)) := fun o4 o5 =>
          compI_map (enc := enc) (g := fun y => .bl (gt p s y)) t.args (fun y hy => by
            have h := ih s y N (by have := ht_arg hy; omega) h2 (by have := ht_arg hy; omega) (by omega)
            simp only [pE.eq_1, pE.eq_2, pE.eq_3, pE.eq_4, pE.eq_5, pE.eq_6, pE.eq_7, pE.eq_8, pE.eq_9, pE.eq_10, pE.eq_11, pE.eq_12, pE.eq_13, pE.eq_14, pE.eq_15, pE.eq_16, pE.eq_17, pE.eq_18, pE.eq_19, pE.eq_20, pE.eq_21, pE.eq_22, pE.eq_23, pE.eq_24, pE.eq_25, pE.eq_26, pS.eq_1, pS.eq_2, pS.eq_3, pS.eq_4, pS.eq_5, pS.eq_6, pS.eq_7, pS.eq_8, pS.eq_9, pS.eq_10, pS.eq_11, pS.eq_12, pS.eq_13, pS.eq_14, pS.eq_15, pS.eq_16, pS.eq_17, pS.eq_18, pS.eq_19, pS.eq_22, pS.eq_24, pNew.eq_1, pNew.eq_2, pNew.eq_3, pNew.eq_4, pNew.eq_5, pNew.eq_6, pNew.eq_7, pE_comp, pE_comp2, pE_dcomp, pS_for, isNew, pSs_cons, pSs_nil, q_nx, q_rt, q_bk, q_ct, q_xc, pEs, pAs, pKV, pEo, pC, pIt, pwalk, pTg, pTgs, cB, cBD, pwipe, PR.bind_ok, PR.bind_exc, PR.ofOpt_some, PR.noExc_ok, PR.thenS_ok, PR.thenS_exc, PC.val_v, PRS.noXc, r_nx, r_rt, r_xc, a_v, a_l, a_bl, T.lim, o_add, o_sub, o_mul, o_div, o_mod, o_addT, o_addLL, o_eq, o_ne, o_lt, o_le, o_gt, o_ge, o_isN, o_isnN, o_isB, o_isnB, o_isT, o_isnT, o_isI, o_isnI, o_isL, o_isnL, eqv_int, o_ixT, o_ixR, o_ixl, o_ixbl, o_slcT, o_slcR, o_slcl, o_revT, o_revR, o_lenT, o_lenR, o_lenl, o_lenbl, o_lenD, o_lend, o_abs, o_int, o_intB, o_tupT, o_tupR, o_tupl, o_lstT, o_lstR, o_min2, o_max2, o_srt, o_repr, t_b, t_i, t_t, t_r, t_l, t_n, y_t, y_r, y_l, y_bl, z_t, z_r, l_r, l_l, it_sq, it_rng, it_rngC, it_zip, PIt.items_enum, List.getElem?_cons_zero, List.getElem?_cons_succ, List.set_cons_zero, List.set_cons_succ, Option.map_some, Option.bind_some, if_true, and_self, true_and, and_true, reduceIte, Bool.not_true, Bool.not_false, Bool.false_eq_true, Tgs.len, List.length_cons, List.length_nil, Nat.zero_add, Nat.reduceAdd, decide_true, decide_false, h]) hlb
        rw [gt_nv hs ht]
        simp only [pE.eq_1, pE.eq_2, pE.eq_3, pE.eq_4, pE.eq_5, pE.eq_6, pE.eq_7, pE.eq_8, pE.eq_9, pE.eq_10, pE.eq_11, pE.eq_12, pE.eq_13, pE.eq_14, pE.eq_15, pE.eq_16, pE.eq_17, pE.eq_18, pE.eq_19, pE.eq_20, pE.eq_21, pE.eq_22, pE.eq_23, pE.eq_24, pE.eq_25, pE.eq_26, pS.eq_1, pS.eq_2, pS.eq_3, pS.eq_4, pS.eq_5, pS.eq_6, pS.eq_7, pS.eq_8, pS.eq_9, pS.eq_10, pS.eq_11, pS.eq_12, pS.eq_13, pS.eq_14, pS.eq_15, pS.eq_16, pS.eq_17, pS.eq_18, pS.eq_19, pS.eq_22, pS.eq_24, pNew.eq_1, pNew.eq_2, pNew.eq_3, pNew.eq_4, pNew.eq_5, pNew.eq_6, pNew.eq_7, pE_comp, pE_comp2, pE_dcomp, pS_for, isNew, pSs_cons, pSs_nil, q_nx, q_rt, q_bk, q_ct, q_xc, pEs, pAs, pKV, pEo, pC, pIt, pwalk, pTg, pTgs, cB, cBD, pwipe, PR.bind_ok, PR.bind_exc, PR.ofOpt_some, PR.noExc_ok, PR.thenS_ok, PR.thenS_exc, PC.val_v, PRS.noXc, r_nx, r_rt, r_xc, a_v, a_l, a_bl, T.lim, o_add, o_sub, o_mul, o_div, o_mod, o_addT, o_addLL, o_eq, o_ne, o_lt, o_le, o_gt, o_ge, o_isN, o_isnN, o_isB, o_isnB, o_isT, o_isnT, o_isI, o_isnI, o_isL, o_isnL, eqv_int, o_ixT, o_ixR, o_ixl, o_ixbl, o_slcT, o_slcR, o_slcl, o_revT, o_revR, o_lenT, o_lenR, o_lenl, o_lenbl, o_lenD, o_lend, o_abs, o_int, o_intB, o_tupT, o_tupR, o_tupl, o_lstT, o_lstR, o_min2, o_max2, o_srt, o_repr, t_b, t_i, t_t, t_r, t_l, t_n, y_t, y_r, y_l, y_bl, z_t, z_r, l_r, l_l, it_sq, it_rng, it_rngC, it_zip, PIt.items_enum, List.getElem?_cons_zero, List.getElem?_cons_succ, List.set_cons_zero, List.set_cons_succ, Option.map_some, Option.bind_some, if_true, and_self, true_and, and_true, reduceIte, Bool.not_true, Bool.not_false, Bool.false_eq_true, Tgs.len, List.length_cons, List.length_nil, Nat.zero_add, Nat.reduceAdd, decide_true, decide_false, isi_i, hs, ht, slc_1 hs, cany, o_anyM]
        cases hA : s.args.any (fun x => decide (x = t) || gt p x t) with
        | true => simp only [pE.eq_1, pE.eq_2, pE.eq_3, pE.eq_4, pE.eq_5, pE.eq_6, pE.eq_7, pE.eq_8, pE.eq_9, pE.eq_10, pE.eq_11, pE.eq_12, pE.eq_13, pE.eq_14, pE.eq_15, pE.eq_16, pE.eq_17, pE.eq_18, pE.eq_19, pE.eq_20, pE.eq_21, pE.eq_22, pE.eq_23, pE.eq_24, pE.eq_25, pE.eq_26, pS.eq_1, pS.eq_2, pS.eq_3, pS.eq_4, pS.eq_5, pS.eq_6, pS.eq_7, pS.eq_8, pS.eq_9, pS.eq_10, pS.eq_11, pS.eq_12, pS.eq_13, pS.eq_14, pS.eq_15, pS.eq_16, pS.eq_17, pS.eq_18, pS.eq_19, pS.eq_22, pS.eq_24, pNew.eq_1, pNew.eq_2, pNew.eq_3, pNew.eq_4, pNew.eq_5, pNew.eq_6, pNew.eq_7, pE_comp, pE_comp2, pE_dcomp, pS_for, isNew, pSs_cons, pSs_nil, q_nx, q_rt, q_bk, q_ct, q_xc, pEs, pAs, pKV, pEo, pC, pIt, pwalk, pTg, pTgs, cB, cBD, pwipe, PR.bind_ok, PR.bind_exc, PR.ofOpt_some, PR.noExc_ok, PR.thenS_ok, PR.thenS_exc, PC.val_v, PRS.noXc, r_nx, r_rt, r_xc, a_v, a_l, a_bl, T.lim, o_add, o_sub, o_mul, o_div, o_mod, o_addT, o_addLL, o_eq, o_ne, o_lt, o_le, o_gt, o_ge, o_isN, o_isnN, o_isB, o_isnB, o_isT, o_isnT, o_isI, o_isnI, o_isL, o_isnL, eqv_int, o_ixT, o_ixR, o_ixl, o_ixbl, o_slcT, o_slcR, o_slcl, o_revT, o_revR, o_lenT, o_lenR, o_lenl, o_lenbl, o_lenD, o_lend, o_abs, o_int, o_intB, o_tupT, o_tupR, o_tupl, o_lstT, o_lstR, o_min2, o_max2, o_srt, o_repr, t_b, t_i, t_t, t_r, t_l, t_n, y_t, y_r, y_l, y_bl, z_t, z_r, l_r, l_l, it_sq, it_rng, it_rngC, it_zip, PIt.items_enum, List.getElem?_cons_zero, List.getElem?_cons_succ, List.set_cons_zero, List.set_cons_succ, Option.map_some, Option.bind_some, if_true, and_self, true_and, and_true, reduceIte, Bool.not_true, Bool.not_false, Bool.false_eq_true, Tgs.len, List.length_cons, List.length_nil, Nat.zero_add, Nat.reduceAdd, decide_true, decide_false]
        | false =>
          simp only [pE.eq_1, pE.eq_2, pE.eq_3, pE.eq_4, pE.eq_5, pE.eq_6, pE.eq_7, pE.eq_8, pE.eq_9, pE.eq_10, pE.eq_11, pE.eq_12, pE.eq_13, pE.eq_14, pE.eq_15, pE.eq_16, pE.eq_17, pE.eq_18, pE.eq_19, pE.eq_20, pE.eq_21, pE.eq_22, pE.eq_23, pE.eq_24, pE.eq_25, pE.eq_26, pS.eq_1, pS.eq_2, pS.eq_3, pS.eq_4, pS.eq_5, pS.eq_6, pS.eq_7, pS.eq_8, pS.eq_9, pS.eq_10, pS.eq_11, pS.eq_12, pS.eq_13, pS.eq_14, pS.eq_15, pS.eq_16, pS.eq_17, pS.eq_18, pS.eq_19, pS.eq_22, pS.eq_24, pNew.eq_1, pNew.eq_2, pNew.eq_3, pNew.eq_4, pNew.eq_5, pNew.eq_6, pNew.eq_7, pE_comp, pE_comp2, pE_dcomp, pS_for, isNew, pSs_cons, pSs_nil, q_nx, q_rt, q_bk, q_ct, q_xc, pEs, pAs, pKV, pEo, pC, pIt, pwalk, pTg, pTgs, cB, cBD, pwipe, PR.bind_ok, PR.bind_exc, PR.ofOpt_some, PR.noExc_ok, PR.thenS_ok, PR.thenS_exc, PC.val_v, PRS.noXc, r_nx, r_rt, r_xc, a_v, a_l, a_bl, T.lim, o_add, o_sub, o_mul, o_div, o_mod, o_addT, o_addLL, o_eq, o_ne, o_lt, o_le, o_gt, o_ge, o_isN, o_isnN, o_isB, o_isnB, o_isT, o_isnT, o_isI, o_isnI, o_isL, o_isnL, eqv_int, o_ixT, o_ixR, o_ixl, o_ixbl, o_slcT, o_slcR, o_slcl, o_revT, o_revR, o_lenT, o_lenR, o_lenl, o_lenbl, o_lenD, o_lend, o_abs, o_int, o_intB, o_tupT, o_tupR, o_tupl, o_lstT, o_lstR, o_min2, o_max2, o_srt, o_repr, t_b, t_i, t_t, t_r, t_l, t_n, y_t, y_r, y_l, y_bl, z_t, z_r, l_r, l_l, it_sq, it_rng, it_rngC, it_zip, PIt.items_enum, List.getElem?_cons_zero, List.getElem?_cons_succ, List.set_cons_zero, List.set_cons_succ, Option.map_some, Option.bind_some, if_true, and_self, true_and, and_true, reduceIte, Bool.not_true, Bool.not_false, Bool.false_eq_true, Tgs.len, List.length_cons, List.length_nil, Nat.zero_add, Nat.reduceAdd, decide_true, decide_false, ix_0 hs, ix_0 ht, ok_index, index_e R hs, index_e R ht, lt_cast]
          cases hlt : decide (p t.sym < p s.sym) with
          | true => simp only [pE.eq_1, pE.eq_2, pE.eq_3, pE.eq_4, pE.eq_5, pE.eq_6, pE.eq_7, pE.eq_8, pE.eq_9, pE.eq_10, pE.eq_11, pE.eq_12, pE.eq_13, pE.eq_14, pE.eq_15, pE.eq_16, pE.eq_17, pE.eq_18, pE.eq_19, pE.eq_20, pE.eq_21, pE.eq_22, pE.eq_23, pE.eq_24, pE.eq_25, pE.eq_26, pS.eq_1, pS.eq_2, pS.eq_3, pS.eq_4, pS.eq_5, pS.eq_6, pS.eq_7, pS.eq_8, pS.eq_9, pS.eq_10, pS.eq_11, pS.eq_12, pS.eq_13, pS.eq_14, pS.eq_15, pS.eq_16, pS.eq_17, pS.eq_18, pS.eq_19, pS.eq_22, pS.eq_24, pNew.eq_1, pNew.eq_2, pNew.eq_3, pNew.eq_4, pNew.eq_5, pNew.eq_6, pNew.eq_7, pE_comp, pE_comp2, pE_dcomp, pS_for, isNew, pSs_cons, pSs_nil, q_nx, q_rt, q_bk, q_ct, q_xc, pEs, pAs, pKV, pEo, pC, pIt, pwalk, pTg, pTgs, cB, cBD, pwipe, PR.bind_ok, PR.bind_exc, PR.ofOpt_some, PR.noExc_ok, PR.thenS_ok, PR.thenS_exc, PC.val_v, PRS.noXc, r_nx, r_rt, r_xc, a_v, a_l, a_bl, T.lim, o_add, o_sub, o_mul, o_div, o_mod, o_addT, o_addLL, o_eq, o_ne, o_lt, o_le, o_gt, o_ge, o_isN, o_isnN, o_isB, o_isnB, o_isT, o_isnT, o_isI, o_isnI, o_isL, o_isnL, eqv_int, o_ixT, o_ixR, o_ixl, o_ixbl, o_slcT, o_slcR, o_slcl, o_revT, o_revR, o_lenT, o_lenR, o_lenl, o_lenbl, o_lenD, o_lend, o_abs, o_int, o_intB, o_tupT, o_tupR, o_tupl, o_lstT, o_lstR, o_min2, o_max2, o_srt, o_repr, t_b, t_i, t_t, t_r, t_l, t_n, y_t, y_r, y_l, y_bl, z_t, z_r, l_r, l_l, it_sq, it_rng, it_rngC, it_zip, PIt.items_enum, List.getElem?_cons_zero, List.getElem?_cons_succ, List.set_cons_zero, List.set_cons_succ, Option.map_some, Option.bind_some, if_true, and_self, true_and, and_true, reduceIte, Bool.not_true, Bool.not_false, Bool.false_eq_true, Tgs.len, List.length_cons, List.length_nil, Nat.zero_add, Nat.reduceAdd, decide_true, decide_false, Bool.true_or]
          | false =>
            simp only [pE.eq_1, pE.eq_2, pE.eq_3, pE.eq_4, pE.eq_5, pE.eq_6, pE.eq_7, pE.eq_8, pE.eq_9, pE.eq_10, pE.eq_11, pE.eq_12, pE.eq_13, pE.eq_14, pE.eq_15, pE.eq_16, pE.eq_17, pE.eq_18, pE.eq_19, pE.eq_20, pE.eq_21, pE.eq_22, pE.eq_23, pE.eq_24, pE.eq_25, pE.eq_26, pS.eq_1, pS.eq_2, pS.eq_3, pS.eq_4, pS.eq_5, pS.eq_6, pS.eq_7, pS.eq_8, pS.eq_9, pS.eq_10, pS.eq_11, pS.eq_12, pS.eq_13, pS.eq_14, pS.eq_15, pS.eq_16, pS.eq_17, pS.eq_18, pS.eq_19, pS.eq_22, pS.eq_24, pNew.eq_1, pNew.eq_2, pNew.eq_3, pNew.eq_4, pNew.eq_5, pNew.eq_6, pNew.eq_7, pE_comp, pE_comp2, pE_dcomp, pS_for, isNew, pSs_cons, pSs_nil, q_nx, q_rt, q_bk, q_ct, q_xc, pEs, pAs, pKV, pEo, pC, pIt, pwalk, pTg, pTgs, cB, cBD, pwipe, PR.bind_ok, PR.bind_exc, PR.ofOpt_some, PR.noExc_ok, PR.thenS_ok, PR.thenS_exc, PC.val_v, PRS.noXc, r_nx, r_rt, r_xc, a_v, a_l, a_bl, T.lim, o_add, o_sub, o_mul, o_div, o_mod, o_addT, o_addLL, o_eq, o_ne, o_lt, o_le, o_gt, o_ge, o_isN, o_isnN, o_isB, o_isnB, o_isT, o_isnT, o_isI, o_isnI, o_isL, o_isnL, eqv_int, o_ixT, o_ixR, o_ixl, o_ixbl, o_slcT, o_slcR, o_slcl, o_revT, o_revR, o_lenT, o_lenR, o_lenl, o_lenbl, o_lenD, o_lend, o_abs, o_int, o_intB, o_tupT, o_tupR, o_tupl, o_lstT, o_lstR, o_min2, o_max2, o_srt, o_repr, t_b, t_i, t_t, t_r, t_l, t_n, y_t, y_r, y_l, y_bl, z_t, z_r, l_r, l_l, it_sq, it_rng, it_rngC, it_zip, PIt.items_enum, List.getElem?_cons_zero, List.getElem?_cons_succ, List.set_cons_zero, List.set_cons_succ, Option.map_some, Option.bind_some, if_true, and_self, true_and, and_true, reduceIte, Bool.not_true, Bool.not_false, Bool.false_eq_true, Tgs.len, List.length_cons, List.length_nil, Nat.zero_add, Nat.reduceAdd, decide_true, decide_false, slc_1 ht, call_, o_allM, Bool.false_or]
            cases hB : t.args.all (fun y => gt p s y) with
            | false => simp only [pE.eq_1, pE.eq_2, pE.eq_3, pE.eq_4, pE.eq_5, pE.eq_6, pE.eq_7, pE.eq_8, pE.eq_9, pE.eq_10, pE.eq_11, pE.eq_12, pE.eq_13, pE.eq_14, pE.eq_15, pE.eq_16, pE.eq_17, pE.eq_18, pE.eq_19, pE.eq_20, pE.eq_21, pE.eq_22, pE.eq_23, pE.eq_24, pE.eq_25, pE.eq_26, pS.eq_1, pS.eq_2, pS.eq_3, pS.eq_4, pS.eq_5, pS.eq_6, pS.eq_7, pS.eq_8, pS.eq_9, pS.eq_10, pS.eq_11, pS.eq_12, pS.eq_13, pS.eq_14, pS.eq_15, pS.eq_16, pS.eq_17, pS.eq_18, pS.eq_19, pS.eq_22, pS.eq_24, pNew.eq_1, pNew.eq_2, pNew.eq_3, pNew.eq_4, pNew.eq_5, pNew.eq_6, pNew.eq_7, pE_comp, pE_comp2, pE_dcomp, pS_for, isNew, pSs_cons, pSs_nil, q_nx, q_rt, q_bk, q_ct, q_xc, pEs, pAs, pKV, pEo, pC, pIt, pwalk, pTg, pTgs, cB, cBD, pwipe, PR.bind_ok, PR.bind_exc, PR.ofOpt_some, PR.noExc_ok, PR.thenS_ok, PR.thenS_exc, PC.val_v, PRS.noXc, r_nx, r_rt, r_xc, a_v, a_l, a_bl, T.lim, o_add, o_sub, o_mul, o_div, o_mod, o_addT, o_addLL, o_eq, o_ne, o_lt, o_le, o_gt, o_ge, o_isN, o_isnN, o_isB, o_isnB, o_isT, o_isnT, o_isI, o_isnI, o_isL, o_isnL, eqv_int, o_ixT, o_ixR, o_ixl, o_ixbl, o_slcT, o_slcR, o_slcl, o_revT, o_revR, o_lenT, o_lenR, o_lenl, o_lenbl, o_lenD, o_lend, o_abs, o_int, o_intB, o_tupT, o_tupR, o_tupl, o_lstT, o_lstR, o_min2, o_max2, o_srt, o_repr, t_b, t_i, t_t, t_r, t_l, t_n, y_t, y_r, y_l, y_bl, z_t, z_r, l_r, l_l, it_sq, it_rng, it_rngC, it_zip, PIt.items_enum, List.getElem?_cons_zero, List.getElem?_cons_succ, List.set_cons_zero, List.set_cons_succ, Option.map_some, Option.bind_some, if_true, and_self, true_and, and_true, reduceIte, Bool.not_true, Bool.not_false, Bool.false_eq_true, Tgs.len, List.length_cons, List.length_nil, Nat.zero_add, Nat.reduceAdd, decide_true, decide_false]
            | true =>
              simp only [pE.eq_1, pE.eq_2, pE.eq_3, pE.eq_4, pE.eq_5, pE.eq_6, pE.eq_7, pE.eq_8, pE.eq_9, pE.eq_10, pE.eq_11, pE.eq_12, pE.eq_13, pE.eq_14, pE.eq_15, pE.eq_16, pE.eq_17, pE.eq_18, pE.eq_19, pE.eq_20, pE.eq_21, pE.eq_22, pE.eq_23, pE.eq_24, pE.eq_25, pE.eq_26, pS.eq_1, pS.eq_2, pS.eq_3, pS.eq_4, pS.eq_5, pS.eq_6, pS.eq_7, pS.eq_8, pS.eq_9, pS.eq_10, pS.eq_11, pS.eq_12, pS.eq_13, pS.eq_14, pS.eq_15, pS.eq_16, pS.eq_17, pS.eq_18, pS.eq_19, pS.eq_22, pS.eq_24, pNew.eq_1, pNew.eq_2, pNew.eq_3, pNew.eq_4, pNew.eq_5, pNew.eq_6, pNew.eq_7, pE_comp, pE_comp2, pE_dcomp, pS_for, isNew, pSs_cons, pSs_nil, q_nx, q_rt, q_bk, q_ct, q_xc, pEs, pAs, pKV, pEo, pC, pIt, pwalk, pTg, pTgs, cB, cBD, pwipe, PR.bind_ok, PR.bind_exc, PR.ofOpt_some, PR.noExc_ok, PR.thenS_ok, PR.thenS_exc, PC.val_v, PRS.noXc, r_nx, r_rt, r_xc, a_v, a_l, a_bl, T.lim, o_add, o_sub, o_mul, o_div, o_mod, o_addT, o_addLL, o_eq, o_ne, o_lt, o_le, o_gt, o_ge, o_isN, o_isnN, o_isB, o_isnB, o_isT, o_isnT, o_isI, o_isnI, o_isL, o_isnL, eqv_int, o_ixT, o_ixR, o_ixl, o_ixbl, o_slcT, o_slcR, o_slcl, o_revT, o_revR, o_lenT, o_lenR, o_lenl, o_lenbl, o_lenD, o_lend, o_abs, o_int, o_intB, o_tupT, o_tupR, o_tupl, o_lstT, o_lstR, o_min2, o_max2, o_srt, o_repr, t_b, t_i, t_t, t_r, t_l, t_n, y_t, y_r, y_l, y_bl, z_t, z_r, l_r, l_l, it_sq, it_rng, it_rngC, it_zip, PIt.items_enum, List.getElem?_cons_zero, List.getElem?_cons_succ, List.set_cons_zero, List.set_cons_succ, Option.map_some, Option.bind_some, if_true, and_self, true_and, and_true, reduceIte, Bool.not_true, Bool.not_false, Bool.false_eq_true, Tgs.len, List.length_cons, List.length_nil, Nat.zero_add, Nat.reduceAdd, decide_true, decide_false]
              cases hlt2 : decide (p s.sym < p t.sym) with
              | true => simp only [pE.eq_1, pE.eq_2, pE.eq_3, pE.eq_4, pE.eq_5, pE.eq_6, pE.eq_7, pE.eq_8, pE.eq_9, pE.eq_10, pE.eq_11, pE.eq_12, pE.eq_13, pE.eq_14, pE.eq_15, pE.eq_16, pE.eq_17, pE.eq_18, pE.eq_19, pE.eq_20, pE.eq_21, pE.eq_22, pE.eq_23, pE.eq_24, pE.eq_25, pE.eq_26, pS.eq_1, pS.eq_2, pS.eq_3, pS.eq_4, pS.eq_5, pS.eq_6, pS.eq_7, pS.eq_8, pS.eq_9, pS.eq_10, pS.eq_11, pS.eq_12, pS.eq_13, pS.eq_14, pS.eq_15, pS.eq_16, pS.eq_17, pS.eq_18, pS.eq_19, pS.eq_22, pS.eq_24, pNew.eq_1, pNew.eq_2, pNew.eq_3, pNew.eq_4, pNew.eq_5, pNew.eq_6, pNew.eq_7, pE_comp, pE_comp2, pE_dcomp, pS_for, isNew, pSs_cons, pSs_nil, q_nx, q_rt, q_bk, q_ct, q_xc, pEs, pAs, pKV, pEo, pC, pIt, pwalk, pTg, pTgs, cB, cBD, pwipe, PR.bind_ok, PR.bind_exc, PR.ofOpt_some, PR.noExc_ok, PR.thenS_ok, PR.thenS_exc, PC.val_v, PRS.noXc, r_nx, r_rt, r_xc, a_v, a_l, a_bl, T.lim, o_add, o_sub, o_mul, o_div, o_mod, o_addT, o_addLL, o_eq, o_ne, o_lt, o_le, o_gt, o_ge, o_isN, o_isnN, o_isB, o_isnB, o_isT, o_isnT, o_isI, o_isnI, o_isL, o_isnL, eqv_int, o_ixT, o_ixR, o_ixl, o_ixbl, o_slcT, o_slcR, o_slcl, o_revT, o_revR, o_lenT, o_lenR, o_lenl, o_lenbl, o_lenD, o_lend, o_abs, o_int, o_intB, o_tupT, o_tupR, o_tupl, o_lstT, o_lstR, o_min2, o_max2, o_srt, o_repr, t_b, t_i, t_t, t_r, t_l, t_n, y_t, y_r, y_l, y_bl, z_t, z_r, l_r, l_l, it_sq, it_rng, it_rngC, it_zip, PIt.items_enum, List.getElem?_cons_zero, List.getElem?_cons_succ, List.set_cons_zero, List.set_cons_succ, Option.map_some, Option.bind_some, if_true, and_self, true_and, and_true, reduceIte, Bool.not_true, Bool.not_false, Bool.false_eq_true, Tgs.len, List.length_cons, List.length_nil, Nat.zero_add, Nat.reduceAdd, decide_true, decide_false, Bool.true_or, lt_cast, hlt2]
              | false =>
                have e0 : p s.sym = p t.sym := by
                  simp at hlt hlt2; omega
                have hsym := R.ord.inj s t hs ht e0
                have hlen := args_len hsym hs ht
                have hb1 : bnd62 1 = true := b62 (by omega) (by omega)
                have hb2 : bnd62 ((s.args.length + 1 : Nat) : Int) = true := b62 (by omega) (by have := args_le s; omega)
                have hrng := n_rng2 (k := s.args.length) hb1 hb2 (by omega)
                have cr : ∀ o4 o5 : Option PC, compI (cB (prun fns G N) G (.nm 6) (.some (.cmp .NotEq (.ix (.var 1) (.var 6)) (.ix (.var 2) (.var 6)))) (.var 6) [6] [some (.v (erow rw)), some (.v s.enc), some (.v t.enc), none, o4, o5, none, none]) ((List.range s.args.length).map fun (i : Nat) => T.int (1 + (i : Int))) [] =
                    .ok (((List.range s.args.length).filter fun i => !decide (s.args[i]? = t.args[i]?)).map fun (i : Nat) => T.int (1 + (i : Int))) := fun o4 o5 =>
                  compI_filter (enc := fun (i : Nat) => T.int (1 + (i : Int))) (p := fun i => !decide (s.args[i]? = t.args[i]?)) (g := fun (i : Nat) => T.int (1 + (i : Int))) (List.range s.args.length) (fun i hi => by
                    have hi := List.mem_range.mp hi
                    have e1 : s.args[i]? = some (s.args[i]'hi) := List.getElem?_eq_getElem hi
                    have e2 : t.args[i]? = some (t.args[i]'(by omega)) := List.getElem?_eq_getElem (by omega)
                    have hm := List.getElem_mem (l := s.args) hi
                    rw [e1, e2]
                    generalize s.args[i]'hi = x at e1 hm
                    generalize t.args[i]'(by omega) = y at e2
                    simp only [pE.eq_1, pE.eq_2, pE.eq_3, pE.eq_4, pE.eq_5, pE.eq_6, pE.eq_7, pE.eq_8, pE.eq_9, pE.eq_10, pE.eq_11, pE.eq_12, pE.eq_13, pE.eq_14, pE.eq_15, pE.eq_16, pE.eq_17, pE.eq_18, pE.eq_19, pE.eq_20, pE.eq_21, pE.eq_22, pE.eq_23, pE.eq_24, pE.eq_25, pE.eq_26, pS.eq_1, pS.eq_2, pS.eq_3, pS.eq_4, pS.eq_5, pS.eq_6, pS.eq_7, pS.eq_8, pS.eq_9, pS.eq_10, pS.eq_11, pS.eq_12, pS.eq_13, pS.eq_14, pS.eq_15, pS.eq_16, pS.eq_17, pS.eq_18, pS.eq_19, pS.eq_22, pS.eq_24, pNew.eq_1, pNew.eq_2, pNew.eq_3, pNew.eq_4, pNew.eq_5, pNew.eq_6, pNew.eq_7, pE_comp, pE_comp2, pE_dcomp, pS_for, isNew, pSs_cons, pSs_nil, q_nx, q_rt, q_bk, q_ct, q_xc, pEs, pAs, pKV, pEo, pC, pIt, pwalk, pTg, pTgs, cB, cBD, pwipe, PR.bind_ok, PR.bind_exc, PR.ofOpt_some, PR.noExc_ok, PR.thenS_ok, PR.thenS_exc, PC.val_v, PRS.noXc, r_nx, r_rt, r_xc, a_v, a_l, a_bl, T.lim, o_add, o_sub, o_mul, o_div, o_mod, o_addT, o_addLL, o_eq, o_ne, o_lt, o_le, o_gt, o_ge, o_isN, o_isnN, o_isB, o_isnB, o_isT, o_isnT, o_isI, o_isnI, o_isL, o_isnL, eqv_int, o_ixT, o_ixR, o_ixl, o_ixbl, o_slcT, o_slcR, o_slcl, o_revT, o_revR, o_lenT, o_lenR, o_lenl, o_lenbl, o_lenD, o_lend, o_abs, o_int, o_intB, o_tupT, o_tupR, o_tupl, o_lstT, o_lstR, o_min2, o_max2, o_srt, o_repr, t_b, t_i, t_t, t_r, t_l, t_n, y_t, y_r, y_l, y_bl, z_t, z_r, l_r, l_l, it_sq, it_rng, it_rngC, it_zip, PIt.items_enum, List.getElem?_cons_zero, List.getElem?_cons_succ, List.set_cons_zero, List.set_cons_succ, Option.map_some, Option.bind_some, if_true, and_self, true_and, and_true, reduceIte, Bool.not_true, Bool.not_false, Bool.false_eq_true, Tgs.len, List.length_cons, List.length_nil, Nat.zero_add, Nat.reduceAdd, decide_true, decide_false, ix_k hs e1, ix_k ht e2, peq_t (s := x) (t := y) (by have := ht_arg hm; omega), Option.some.injEq]
                    cases decide (x = y) <;> rfl) (by rw [List.length_range]; exact hla)
                simp only [pE.eq_1, pE.eq_2, pE.eq_3, pE.eq_4, pE.eq_5, pE.eq_6, pE.eq_7, pE.eq_8, pE.eq_9, pE.eq_10, pE.eq_11, pE.eq_12, pE.eq_13, pE.eq_14, pE.eq_15, pE.eq_16, pE.eq_17, pE.eq_18, pE.eq_19, pE.eq_20, pE.eq_21, pE.eq_22, pE.eq_23, pE.eq_24, pE.eq_25, pE.eq_26, pS.eq_1, pS.eq_2, pS.eq_3, pS.eq_4, pS.eq_5, pS.eq_6, pS.eq_7, pS.eq_8, pS.eq_9, pS.eq_10, pS.eq_11, pS.eq_12, pS.eq_13, pS.eq_14, pS.eq_15, pS.eq_16, pS.eq_17, pS.eq_18, pS.eq_19, pS.eq_22, pS.eq_24, pNew.eq_1, pNew.eq_2, pNew.eq_3, pNew.eq_4, pNew.eq_5, pNew.eq_6, pNew.eq_7, pE_comp, pE_comp2, pE_dcomp, pS_for, isNew, pSs_cons, pSs_nil, q_nx, q_rt, q_bk, q_ct, q_xc, pEs, pAs, pKV, pEo, pC, pIt, pwalk, pTg, pTgs, cB, cBD, pwipe, PR.bind_ok, PR.bind_exc, PR.ofOpt_some, PR.noExc_ok, PR.thenS_ok, PR.thenS_exc, PC.val_v, PRS.noXc, r_nx, r_rt, r_xc, a_v, a_l, a_bl, T.lim, o_add, o_sub, o_mul, o_div, o_mod, o_addT, o_addLL, o_eq, o_ne, o_lt, o_le, o_gt, o_ge, o_isN, o_isnN, o_isB, o_isnB, o_isT, o_isnT, o_isI, o_isnI, o_isL, o_isnL, eqv_int, o_ixT, o_ixR, o_ixl, o_ixbl, o_slcT, o_slcR, o_slcl, o_revT, o_revR, o_lenT, o_lenR, o_lenl, o_lenbl, o_lenD, o_lend, o_abs, o_int, o_intB, o_tupT, o_tupR, o_tupl, o_lstT, o_lstR, o_min2, o_max2, o_srt, o_repr, t_b, t_i, t_t, t_r, t_l, t_n, y_t, y_r, y_l, y_bl, z_t, z_r, l_r, l_l, it_sq, it_rng, it_rngC, it_zip, PIt.items_enum, List.getElem?_cons_zero, List.getElem?_cons_succ, List.set_cons_zero, List.set_cons_succ, Option.map_some, Option.bind_some, if_true, and_self, true_and, and_true, reduceIte, Bool.not_true, Bool.not_false, Bool.false_eq_true, Tgs.len, List.length_cons, List.length_nil, Nat.zero_add, Nat.reduceAdd, decide_true, decide_false, lt_cast, hlt2, len_t hs, hrng, cr, Nat.zero_le, Bool.false_or]
                rcases row_find2 (g := gt p) hlen (args_le s) with ⟨e1, e2⟩ | ⟨i, r, x, y, e1, e2, e3, e4⟩
                · rw [e1, e2]
                  have := (Enc.rol enc_int).peq (by omega) [] []
                  simp only [List.map_nil] at this ⊢
                  simp only [pE.eq_1, pE.eq_2, pE.eq_3, pE.eq_4, pE.eq_5, pE.eq_6, pE.eq_7, pE.eq_8, pE.eq_9, pE.eq_10, pE.eq_11, pE.eq_12, pE.eq_13, pE.eq_14, pE.eq_15, pE.eq_16, pE.eq_17, pE.eq_18, pE.eq_19, pE.eq_20, pE.eq_21, pE.eq_22, pE.eq_23, pE.eq_24, pE.eq_25, pE.eq_26, pS.eq_1, pS.eq_2, pS.eq_3, pS.eq_4, pS.eq_5, pS.eq_6, pS.eq_7, pS.eq_8, pS.eq_9, pS.eq_10, pS.eq_11, pS.eq_12, pS.eq_13, pS.eq_14, pS.eq_15, pS.eq_16, pS.eq_17, pS.eq_18, pS.eq_19, pS.eq_22, pS.eq_24, pNew.eq_1, pNew.eq_2, pNew.eq_3, pNew.eq_4, pNew.eq_5, pNew.eq_6, pNew.eq_7, pE_comp, pE_comp2, pE_dcomp, pS_for, isNew, pSs_cons, pSs_nil, q_nx, q_rt, q_bk, q_ct, q_xc, pEs, pAs, pKV, pEo, pC, pIt, pwalk, pTg, pTgs, cB, cBD, pwipe, PR.bind_ok, PR.bind_exc, PR.ofOpt_some, PR.noExc_ok, PR.thenS_ok, PR.thenS_exc, PC.val_v, PRS.noXc, r_nx, r_rt, r_xc, a_v, a_l, a_bl, T.lim, o_add, o_sub, o_mul, o_div, o_mod, o_addT, o_addLL, o_eq, o_ne, o_lt, o_le, o_gt, o_ge, o_isN, o_isnN, o_isB, o_isnB, o_isT, o_isnT, o_isI, o_isnI, o_isL, o_isnL, eqv_int, o_ixT, o_ixR, o_ixl, o_ixbl, o_slcT, o_slcR, o_slcl, o_revT, o_revR, o_lenT, o_lenR, o_lenl, o_lenbl, o_lenD, o_lend, o_abs, o_int, o_intB, o_tupT, o_tupR, o_tupl, o_lstT, o_lstR, o_min2, o_max2, o_srt, o_repr, t_b, t_i, t_t, t_r, t_l, t_n, y_t, y_r, y_l, y_bl, z_t, z_r, l_r, l_l, it_sq, it_rng, it_rngC, it_zip, PIt.items_enum, List.getElem?_cons_zero, List.getElem?_cons_succ, List.set_cons_zero, List.set_cons_succ, Option.map_some, Option.bind_some, if_true, and_self, true_and, and_true, reduceIte, Bool.not_true, Bool.not_false, Bool.false_eq_true, Tgs.len, List.length_cons, List.length_nil, Nat.zero_add, Nat.reduceAdd, decide_true, decide_false, this]
                · rw [e1, e4]
                  have h := ih x y N (by have := ht_arg (List.mem_of_getElem? e2); have := ht_arg (List.mem_of_getElem? e3); omega) (by have := ht_arg (List.mem_of_getElem? e2); omega) (by have := ht_arg (List.mem_of_getElem? e3); omega) (by omega)
                  have hne := (Enc.rol enc_int).peq (by omega) ((1 + (i : Int)) :: r.map fun (i : Nat) => 1 + (i : Int)) []
                  simp only [List.map_nil, List.map_cons, List.map_map] at hne
                  have hix : ixN ((r.map fun (i : Nat) => T.int (1 + (i : Int))).length + 1) 0 = some 0 := by
                    rw [show (0 : Int) = ((0 : Nat) : Int) from rfl, ixN_nat (by simp)]
                  have hne' : peq (.v (.rol (T.int (1 + (i : Int)) :: r.map fun (i : Nat) => T.int (1 + (i : Int))))) (.v (.rol [])) = some false := by
                    rw [show (r.map fun (i : Nat) => T.int (1 + (i : Int))) = r.map (T.int ∘ fun (i : Nat) => 1 + (i : Int)) from rfl, hne]
                    rfl
                  simp only [pE.eq_1, pE.eq_2, pE.eq_3, pE.eq_4, pE.eq_5, pE.eq_6, pE.eq_7, pE.eq_8, pE.eq_9, pE.eq_10, pE.eq_11, pE.eq_12, pE.eq_13, pE.eq_14, pE.eq_15, pE.eq_16, pE.eq_17, pE.eq_18, pE.eq_19, pE.eq_20, pE.eq_21, pE.eq_22, pE.eq_23, pE.eq_24, pE.eq_25, pE.eq_26, pS.eq_1, pS.eq_2, pS.eq_3, pS.eq_4, pS.eq_5, pS.eq_6, pS.eq_7, pS.eq_8, pS.eq_9, pS.eq_10, pS.eq_11, pS.eq_12, pS.eq_13, pS.eq_14, pS.eq_15, pS.eq_16, pS.eq_17, pS.eq_18, pS.eq_19, pS.eq_22, pS.eq_24, pNew.eq_1, pNew.eq_2, pNew.eq_3, pNew.eq_4, pNew.eq_5, pNew.eq_6, pNew.eq_7, pE_comp, pE_comp2, pE_dcomp, pS_for, isNew, pSs_cons, pSs_nil, q_nx, q_rt, q_bk, q_ct, q_xc, pEs, pAs, pKV, pEo, pC, pIt, pwalk, pTg, pTgs, cB, cBD, pwipe, PR.bind_ok, PR.bind_exc, PR.ofOpt_some, PR.noExc_ok, PR.thenS_ok, PR.thenS_exc, PC.val_v, PRS.noXc, r_nx, r_rt, r_xc, a_v, a_l, a_bl, T.lim, o_add, o_sub, o_mul, o_div, o_mod, o_addT, o_addLL, o_eq, o_ne, o_lt, o_le, o_gt, o_ge, o_isN, o_isnN, o_isB, o_isnB, o_isT, o_isnT, o_isI, o_isnI, o_isL, o_isnL, eqv_int, o_ixT, o_ixR, o_ixl, o_ixbl, o_slcT, o_slcR, o_slcl, o_revT, o_revR, o_lenT, o_lenR, o_lenl, o_lenbl, o_lenD, o_lend, o_abs, o_int, o_intB, o_tupT, o_tupR, o_tupl, o_lstT, o_lstR, o_min2, o_max2, o_srt, o_repr, t_b, t_i, t_t, t_r, t_l, t_n, y_t, y_r, y_l, y_bl, z_t, z_r, l_r, l_l, it_sq, it_rng, it_rngC, it_zip, PIt.items_enum, List.getElem?_cons_zero, List.getElem?_cons_succ, List.set_cons_zero, List.set_cons_succ, Option.map_some, Option.bind_some, if_true, and_self, true_and, and_true, reduceIte, Bool.not_true, Bool.not_false, Bool.false_eq_true, Tgs.len, List.length_cons, List.length_nil, Nat.zero_add, Nat.reduceAdd, decide_true, decide_false, List.map_cons, hne', hix, ix_k hs e2, ix_k ht e3, h]
end Tm
end Lw

end

section
set_option Elab.async false
set_option linter.all false
set_option maxRecDepth 100000
set_option maxHeartbeats 4000000
set_option autoImplicit false
/-! K20F: the class Order, run by run. -/
namespace Lw
open PF PySem
theorem gc_same {st : Store} {t : T} (h : Cls st) (ht : Pur t) : gc st.length (.ok t st) = .ok t st := gc_keep h ht List.take_length
theorem gc_sameX {st : Store} {c : Nat} (h : Cls st) : gc st.length (.exc ⟨c, []⟩ st) = .exc ⟨c, []⟩ st := gc_keepX h rfl List.take_length
theorem s_sub {i j : Int} {st : Store} : binT .Sub (.int i) (.int j) st = .ok (.int (i - j)) st := rfl
theorem s_ne {x y : T} {st : Store} : cmpT .NotEq x y st = (eqT st x y).map (!·) := rfl
theorem s_in {x y : T} {st : Store} : cmpT .In x y st = inT x y st := rfl
theorem s_nin {x y : T} {st : Store} : cmpT .NotIn x y st = (inT x y st).map (!·) := rfl
theorem s_slc {xs : List T} {lo hi : Option Int} {st : Store} : slcT (.tup xs) lo hi st = .ok (.tup (cutT xs lo hi)) st := rfl
theorem s_any {l : List Bool} {st : Store} : bfn .any [.rol (l.map .bl)] st = .ok (.bl (l.any id)) st := by
  simp only [bfn, lstOf, Option.bind_some, boolsOf_map]
theorem s_all {l : List Bool} {st : Store} : bfn .all [.rol (l.map .bl)] st = .ok (.bl (l.all id)) st := by
  simp only [bfn, lstOf, Option.bind_some, boolsOf_map]
theorem s_anyM {α : Type} {l : List α} {f : α → Bool} {st : Store} : bfn .any [.rol (l.map fun x => .bl (f x))] st = .ok (.bl (l.any f)) st := by
  have := s_any (l := l.map f) (st := st)
  rw [List.map_map, List.any_map] at this
  exact this
theorem s_allM {α : Type} {l : List α} {f : α → Bool} {st : Store} : bfn .all [.rol (l.map fun x => .bl (f x))] st = .ok (.bl (l.all f)) st := by
  have := s_all (l := l.map f) (st := st)
  rw [List.map_map, List.all_map] at this
  exact this
theorem s_itT {xs : List T} {st : Store} : itVal (.tup xs) st = some (.sq (.tup xs)) := rfl
theorem s_lenT {xs : List T} {st : Store} : (Itv.sq (.tup xs)).len st = some xs.length := rfl
/-- a comprehension over a tuple -/
theorem compL_map {α : Type} {enc : α → T} {body : T → Store → PF.R (Option T)} {g : α → T} {st : Store} {xs : List α} (hb : ∀ x ∈ xs, body (enc x) st = .ok (some (g x)) st) (hl : xs.length ≤ sizeLine) :
    compL (.sq (.tup (xs.map enc))) body xs.length 0 [] st = .ok (xs.map g) st := by
  have key : ∀ (k i : Nat) (acc : List T), i + k = xs.length → acc.length = i → compL (.sq (.tup (xs.map enc))) body k i acc st = .ok (acc ++ (xs.drop i).map g) st := by
    intro k
    induction k with
    | zero =>
      intro i acc e _
      unfold compL
      rw [if_pos (by rw [s_lenT, List.length_map]; congr 1; omega), List.drop_of_length_le (by omega)]
      simp
    | succ k ih =>
      intro i acc e ea
      have hi : i < xs.length := by omega
      have eg : (Itv.sq (.tup (xs.map enc))).get st i = some (enc xs[i]) := by
        simp only [Itv.get, seqOf, Option.bind_some, List.getElem?_map, List.getElem?_eq_getElem hi, Option.map_some]
      unfold compL
      rw [eg]
      dsimp only
      rw [hb _ (List.getElem_mem hi), R.bind_ok]
      dsimp only
      rw [if_pos (by omega), ih (i + 1) _ (by omega) (by rw [List.length_append, List.length_singleton]; omega), List.drop_eq_getElem_cons hi, List.map_cons, List.append_assoc]
      rfl
  have := key xs.length 0 [] (Nat.zero_add _) rfl
  simpa using this
/-! ### the object -/
def oc (kvs : List (T × T)) : Cell := .ins 1000 [(s_ranks, .rod kvs)]
theorem flK : G.fld 1000 s_ranks = true := by decide +kernel
theorem lkK {a : T} : List.lookup s_ranks [(s_ranks, a)] = some a := rfl
theorem m_rank {a : T} : G.meth 1000 s_rank [(s_ranks, a)] = some 13 := rfl
theorem m_gt {a : T} : G.meth 1000 s_is_greater [(s_ranks, a)] = some 14 := rfl
theorem m_row {a : T} : G.meth 1000 s_is_greater_row [(s_ranks, a)] = some 15 := rfl
section
variable {st : Store} {o : Nat} {kvs : List (T × T)}
theorem in_rod {x : Str} : inT (.str x) (.rod kvs) st = some (dLook (.str x) kvs).isSome := rfl
theorem ix_rod {x : Str} : ixT (.rod kvs) (.str x) st = dLook (.str x) kvs := rfl
theorem rank_run {M : Nat} {x : Str} {r : Int} (hM : 1 ≤ M) (hst : Cls st) (ho : st[o]? = some (oc kvs)) (h : dLook (.str x) kvs = some (.int r)) : run fns G M 13 [.ref o, .str x] st = .ok (.int r) st := by
  obtain ⟨N, rfl⟩ : ∃ N, M = N + 1 := ⟨M - 1, by omega⟩
  rw [run_gc (h := fn_13) (hF := i_Order_rank) (ha := rfl)]
  unfold b_Order_rank
  unfold oc at ho
  simp only [List.map_cons, List.map_nil, Nat.sub_self, List.replicate, List.append_nil]
  simp only [Ss_cons, Ss_nil, Q_nx, Q_rt, Q_bk, Q_ct, Q_xc, evS, evE, evEs, evTg, R.bind_ok, R.thenS_ok, PF.R.ofOpt_some, R.noExc_ok, s_add, s_mul, s_div, s_mod, s_eq, s_lt, s_gt, s_ixR, s_keyS, s_lenR, s_int, s_truRB, List.getElem?_cons_zero, List.getElem?_cons_succ, List.set_cons_zero, List.set_cons_succ, Option.map_some, Option.bind_some, if_true, and_self, true_and, reduceIte, Bool.false_eq_true, decide_true, decide_false, eqT_int, dl_left, dl_at, dl_cells, dl_seed, dl_salt, dp_at, dp_left, dp_salt, dn_five, ho, flK, lkK, s_nin, in_rod, h, Option.isSome_some, Bool.not_true, ix_rod, s_toR]
  exact gc_same hst rfl
theorem rank_exc {M : Nat} {x : Str} (hM : 1 ≤ M) (hst : Cls st) (ho : st[o]? = some (oc kvs)) (h : dLook (.str x) kvs = none) : run fns G M 13 [.ref o, .str x] st = .exc ⟨1, []⟩ st := by
  obtain ⟨N, rfl⟩ : ∃ N, M = N + 1 := ⟨M - 1, by omega⟩
  rw [run_gc (h := fn_13) (hF := i_Order_rank) (ha := rfl)]
  unfold b_Order_rank
  unfold oc at ho
  simp only [List.map_cons, List.map_nil, Nat.sub_self, List.replicate, List.append_nil]
  simp only [Ss_cons, Ss_nil, Q_nx, Q_rt, Q_bk, Q_ct, Q_xc, evS, evE, evEs, evTg, R.bind_ok, R.thenS_ok, PF.R.ofOpt_some, R.noExc_ok, s_add, s_mul, s_div, s_mod, s_eq, s_lt, s_gt, s_ixR, s_keyS, s_lenR, s_int, s_truRB, List.getElem?_cons_zero, List.getElem?_cons_succ, List.set_cons_zero, List.set_cons_succ, Option.map_some, Option.bind_some, if_true, and_self, true_and, reduceIte, Bool.false_eq_true, decide_true, decide_false, eqT_int, dl_left, dl_at, dl_cells, dl_seed, dl_salt, dp_at, dp_left, dp_salt, dn_five, ho, flK, lkK, s_nin, in_rod, h, Option.isSome_none, Bool.not_false]
  exact gc_sameX hst
end
namespace Tm
structure RkOk (kvs : List (T × T)) (p : Nat → Nat) : Prop where
  look : ∀ t : Tm, t.isv = false → dLook (.str t.nm) kvs = some (.int (5 - (p t.sym : Int)))
  ord : Ord p
section
variable {st : Store} {o : Nat} {kvs : List (T × T)} {p : Nat → Nat}
theorem purs_1 (t : Tm) : Purs [t.enc] := by simp only [Purs, T.lims, Bool.and_eq_true, Bool.and_true]; exact pur_enc t
theorem e_ix0 {t : Tm} (h : t.isv = false) : ixT t.enc (.int 0) st = some (.str t.nm) := by
  rw [enc_app h]
  show (ixN (T.str t.nm :: t.args.map enc).length 0).bind (fun j => (T.str t.nm :: t.args.map enc)[j]?) = _
  rw [show (0 : Int) = ((0 : Nat) : Int) from rfl, ixN_nat (by simp)]
  rfl
theorem e_slc {t : Tm} (h : t.isv = false) : slcT t.enc (some 1) none st = .ok (.tup (t.args.map enc)) st := by rw [enc_app h, s_slc, cut_1]
theorem e_in {n : Nat} {s : Tm} : inT (.int n) (.rod (dk s.vs)) st = some (decide (n ∈ s.vars)) := by
  show (if isKey (.int (n : Int)) then some (dLook (.int (n : Int)) (dk s.vs)).isSome else none) = _
  rw [dk_look]
  simp only [isKey, if_true]
  congr 1
  rw [Bool.eq_iff_iff, decide_eq_true_eq, decide_eq_true_eq, mem_vs]
/-! ### a row of terms -/
theorem row_run {N : Nat} {m : Nat} (hst : Cls st) (ho : st[o]? = some (oc kvs)) {a b : List Tm} (hl : a.length = b.length) (hh : ∀ x ∈ a, x.ht ≤ 100)
    (ih : ∀ x ∈ a, ∀ y ∈ b, run fns G N 14 [.ref o, x.enc, y.enc] st = .ok (.bl (gt p x y)) st) : run fns G (N + 1) 15 [.ref o, .tup (a.map enc), .tup (b.map enc)] st = .ok (.bl (row (gt p) a b)) st := by
  rw [run_gc (h := fn_15) (hF := i_Order_is_greater_row) (ha := rfl)]
  unfold b_Order_is_greater_row
  simp only [List.map_cons, List.map_nil, Nat.reduceSub, List.replicate, List.cons_append, List.nil_append]
  have ho' := ho
  unfold oc at ho'
  have loop : ∀ (k i : Nat) (o3 o4 : Option T), i + k = a.length → (forL (.zip (.tup (a.map enc)) (.tup (b.map enc))) (fun x sl st => (evTg (run fns G N) G (.tup (.cons (.nm 3) (.cons (.nm 4) .nil))) x sl st).noExc.thenS sl fun sl st => evSs (run fns G N) G (.cons (.ifS (.cmp .NotEq (.var 3) (.var 4)) (.cons (.ret (.own s_is_greater (.var 0) (.cons (.var 3) (.cons (.var 4) .nil)))) .nil) .nil) .nil) sl st) k i
      [some (.ref o), some (.tup (a.map enc)), some (.tup (b.map enc)), o3, o4] st).seq (fun sl st => .rt (.bl false) st) = .rt (.bl (row (gt p) (a.drop i) (b.drop i))) st := by
    intro k
    induction k with
    | zero =>
      intro i o3 o4 e
      unfold forL
      rw [if_pos (by simp only [Itv.len, seqOf, List.length_map]; congr 1; omega), Q_nx, List.drop_of_length_le (by omega), List.drop_of_length_le (by omega)]
      rfl
    | succ k ih2 =>
      intro i o3 o4 e
      have hi : i < a.length := by omega
      have hi2 : i < b.length := by omega
      have eg : (Itv.zip (.tup (a.map enc)) (.tup (b.map enc))).get st i = some (.tup [(a[i]).enc, (b[i]).enc]) := by
        simp only [Itv.get, seqOf, Option.bind_some, List.getElem?_map, List.getElem?_eq_getElem hi, List.getElem?_eq_getElem hi2, Option.map_some]
        rfl
      have hr := ih a[i] (List.getElem_mem hi) b[i] (List.getElem_mem hi2)
      have hq := eqT_t (st := st) (s := a[i]) (t := b[i]) (hh _ (List.getElem_mem hi))
      rw [List.drop_eq_getElem_cons hi, List.drop_eq_getElem_cons hi2]
      generalize a[i] = x at eg hr hq
      generalize b[i] = y at eg hr hq
      have q2 := ih2 (i + 1) (some x.enc) (some y.enc) (by omega)
      simp only [Ss_cons, Ss_nil, Q_nx, Q_rt, Q_bk, Q_ct, Q_xc, evS, evE, evEs, evTg, R.bind_ok, R.thenS_ok, PF.R.ofOpt_some, R.noExc_ok, s_add, s_mul, s_div, s_mod, s_eq, s_lt, s_gt, s_ixR, s_keyS, s_lenR, s_int, s_truRB, List.getElem?_cons_zero, List.getElem?_cons_succ, List.set_cons_zero, List.set_cons_succ, Option.map_some, Option.bind_some, if_true, and_self, true_and, reduceIte, Bool.false_eq_true, decide_true, decide_false, eqT_int, dl_left, dl_at, dl_cells, dl_seed, dl_salt, dp_at, dp_left, dp_salt, dn_five, evTgs, Tgs.len, List.length_cons, List.length_nil, Nat.zero_add, Nat.reduceAdd] at q2
      unfold forL
      rw [eg]
      simp only [Ss_cons, Ss_nil, Q_nx, Q_rt, Q_bk, Q_ct, Q_xc, evS, evE, evEs, evTg, R.bind_ok, R.thenS_ok, PF.R.ofOpt_some, R.noExc_ok, s_add, s_mul, s_div, s_mod, s_eq, s_lt, s_gt, s_ixR, s_keyS, s_lenR, s_int, s_truRB, List.getElem?_cons_zero, List.getElem?_cons_succ, List.set_cons_zero, List.set_cons_succ, Option.map_some, Option.bind_some, if_true, and_self, true_and, reduceIte, Bool.false_eq_true, decide_true, decide_false, eqT_int, dl_left, dl_at, dl_cells, dl_seed, dl_salt, dp_at, dp_left, dp_salt, dn_five, evTgs, Tgs.len, List.length_cons, List.length_nil, Nat.zero_add, Nat.reduceAdd, s_ne, hq, ho', m_gt, hr]
      unfold row
      by_cases hxy : x = y
      · simp only [decide_eq_true hxy, Bool.not_true, if_pos hxy]
        simp only [Ss_cons, Ss_nil, Q_nx, Q_rt, Q_bk, Q_ct, Q_xc, evS, evE, evEs, evTg, R.bind_ok, R.thenS_ok, PF.R.ofOpt_some, R.noExc_ok, s_add, s_mul, s_div, s_mod, s_eq, s_lt, s_gt, s_ixR, s_keyS, s_lenR, s_int, s_truRB, List.getElem?_cons_zero, List.getElem?_cons_succ, List.set_cons_zero, List.set_cons_succ, Option.map_some, Option.bind_some, if_true, and_self, true_and, reduceIte, Bool.false_eq_true, decide_true, decide_false, eqT_int, dl_left, dl_at, dl_cells, dl_seed, dl_salt, dp_at, dp_left, dp_salt, dn_five]
        exact q2
      · simp only [decide_eq_false hxy, Bool.not_false, if_neg hxy]
        simp only [Ss_cons, Ss_nil, Q_nx, Q_rt, Q_bk, Q_ct, Q_xc, evS, evE, evEs, evTg, R.bind_ok, R.thenS_ok, PF.R.ofOpt_some, R.noExc_ok, s_add, s_mul, s_div, s_mod, s_eq, s_lt, s_gt, s_ixR, s_keyS, s_lenR, s_int, s_truRB, List.getElem?_cons_zero, List.getElem?_cons_succ, List.set_cons_zero, List.set_cons_succ, Option.map_some, Option.bind_some, if_true, and_self, true_and, reduceIte, Bool.false_eq_true, decide_true, decide_false, eqT_int, dl_left, dl_at, dl_cells, dl_seed, dl_salt, dp_at, dp_left, dp_salt, dn_five]
  have q := loop a.length 0 none none (Nat.zero_add _)
  simp only [List.drop_zero] at q
  have hz : evIt (run fns G N) G (.zip (.var 1) (.var 2)) [some (.ref o), some (.tup (a.map enc)), some (.tup (b.map enc)), none, none] st = .ok (.zip (.tup (a.map enc)) (.tup (b.map enc))) st := by
    unfold evIt
    simp only [Ss_cons, Ss_nil, Q_nx, Q_rt, Q_bk, Q_ct, Q_xc, evS, evE, evEs, evTg, R.bind_ok, R.thenS_ok, PF.R.ofOpt_some, R.noExc_ok, s_add, s_mul, s_div, s_mod, s_eq, s_lt, s_gt, s_ixR, s_keyS, s_lenR, s_int, s_truRB, List.getElem?_cons_zero, List.getElem?_cons_succ, List.set_cons_zero, List.set_cons_succ, Option.map_some, Option.bind_some, if_true, and_self, true_and, reduceIte, Bool.false_eq_true, decide_true, decide_false, eqT_int, dl_left, dl_at, dl_cells, dl_seed, dl_salt, dp_at, dp_left, dp_salt, dn_five]
    rfl
  have hzl : (Itv.zip (.tup (a.map enc)) (.tup (b.map enc))).len st = some a.length := by
    simp only [Itv.len, seqOf, List.length_map]; congr 1; omega
  have hend : ∀ sl st, evSs (run fns G N) G (.cons (.ret (.cst (.bl false))) .nil) sl st = .rt (.bl false) st := fun sl st => by simp only [Ss_cons, Ss_nil, Q_nx, Q_rt, Q_bk, Q_ct, Q_xc, evS, evE, evEs, evTg, R.bind_ok, R.thenS_ok, PF.R.ofOpt_some, R.noExc_ok, s_add, s_mul, s_div, s_mod, s_eq, s_lt, s_gt, s_ixR, s_keyS, s_lenR, s_int, s_truRB, List.getElem?_cons_zero, List.getElem?_cons_succ, List.set_cons_zero, List.set_cons_succ, Option.map_some, Option.bind_some, if_true, and_self, true_and, reduceIte, Bool.false_eq_true, decide_true, decide_false, eqT_int, dl_left, dl_at, dl_cells, dl_seed, dl_salt, dp_at, dp_left, dp_salt, dn_five]
  rw [Ss_cons]
  conv => lhs; arg 2; arg 1; arg 1; unfold evS
  rw [hz, R.thenS_ok, hzl]
  dsimp only
  rw [show (evSs (run fns G N) G (.cons (.ret (.cst (.bl false))) .nil)) = (fun sl st => RS.rt (.bl false) st) from funext fun sl => funext fun st => hend sl st]
  rw [q, s_toR]
  exact gc_same hst rfl
end
end Tm
end Lw

end

section
set_option Elab.async false
set_option linter.all false
set_option maxRecDepth 100000
set_option maxHeartbeats 4000000
set_option autoImplicit false
/-! K20H: the order of the program. -/
namespace Lw
open PF PySem
namespace Tm
section
variable {st : Store} {o : Nat} {kvs : List (T × T)} {p : Nat → Nat}
theorem is_variable_r {M : Nat} {t : Tm} (hM : 1 ≤ M) (hst : Cls st) : run fns G M 0 [t.enc] st = .ok (.bl t.isv) st := run_ok hst (purs_1 t) (is_variable_s hM)
theorem lt5 {a b : Nat} : decide ((5 : Int) - (a : Int) < 5 - (b : Int)) = decide (b < a) := by
  rw [Bool.eq_iff_iff, decide_eq_true_eq, decide_eq_true_eq]; omega
def cAny : E := .compx (.nm 5) (.val (.slc (.var 1) (.some (.cst (.int 1))) .none)) .none (.or (.cmp .Eq (.var 5) (.var 2)) (.own s_is_greater (.var 0) (.cons (.var 5) (.cons (.var 2) .nil)))) [5]
def cAll : E := .compx (.nm 5) (.val (.slc (.var 2) (.some (.cst (.int 1))) .none)) .none (.own s_is_greater (.var 0) (.cons (.var 1) (.cons (.var 5) .nil))) [5]
def bGt : Ss := (.cons (.ifS (.call 0 (.cons (.var 1) .nil)) (.cons (.ret (.cst (.bl false)))
  .nil) .nil)
  (.cons (.ifS (.call 0 (.cons (.var 2) .nil)) (.cons (.ret (.cmp .In (.var 2) (.call 1 (.cons (.var 1) .nil))))
  .nil) .nil)
  (.cons (.ifS (.bcall .any (.cons cAny .nil)) (.cons (.ret (.cst (.bl true)))
  .nil) .nil)
  (.cons (.par 3 4 (.own s_rank (.var 0) (.cons (.ix (.var 1) (.cst (.int 0))) .nil)) (.own s_rank (.var 0) (.cons (.ix (.var 2) (.cst (.int 0))) .nil)))
  (.cons (.ifS (.or (.cmp .Lt (.var 3) (.var 4)) (.not (.bcall .all (.cons cAll .nil)))) (.cons (.ret (.cst (.bl false)))
  .nil) .nil)
  (.cons (.ret (.or (.cmp .Gt (.var 3) (.var 4)) (.own s_is_greater_row (.var 0) (.cons (.slc (.var 1) (.some (.cst (.int 1))) .none) (.cons (.slc (.var 2) (.some (.cst (.int 1))) .none) .nil)))))
  .nil))))))
theorem bGt_eq : b_Order_is_greater = bGt := rfl
theorem any_run {N : Nat} {s t : Tm} {o3 o4 o5 : Option T} (hst : Cls st) (ho : st[o]? = some (oc kvs)) (hs : s.isv = false) (hh : s.ht ≤ 100)
    (ih : ∀ x ∈ s.args, run fns G N 14 [.ref o, x.enc, t.enc] st = .ok (.bl (gt p x t)) st) :
    evE (run fns G N) G cAny [some (.ref o), some s.enc, some t.enc, o3, o4, o5] st = .ok (.rol (s.args.map fun x => .bl (decide (x = t) || gt p x t))) st := by
  have ho' := ho
  unfold oc at ho'
  have hla : s.args.length ≤ sizeLine := le_size (by have := args_le s; omega)
  unfold cAny evE
  simp only [Ss_cons, Ss_nil, Q_nx, Q_rt, Q_bk, Q_ct, Q_xc, evS, evE, evEs, evTg, R.bind_ok, R.thenS_ok, PF.R.ofOpt_some, R.noExc_ok, s_add, s_mul, s_div, s_mod, s_eq, s_lt, s_gt, s_ixR, s_keyS, s_lenR, s_int, s_truRB, List.getElem?_cons_zero, List.getElem?_cons_succ, List.set_cons_zero, List.set_cons_succ, Option.map_some, Option.bind_some, if_true, and_self, true_and, reduceIte, Bool.false_eq_true, decide_true, decide_false, eqT_int, dl_left, dl_at, dl_cells, dl_seed, dl_salt, dp_at, dp_left, dp_salt, dn_five, evIt, evEo, e_slc hs, s_itT, s_lenT, List.length_map]
  rw [compL_map (enc := enc) (g := fun x => .bl (decide (x = t) || gt p x t)) (xs := s.args) (fun x hx => by
    have hq := eqT_t (st := st) (s := x) (t := t) (by have := ht_arg hx; omega)
    have hr := ih x hx
    simp only [Ss_cons, Ss_nil, Q_nx, Q_rt, Q_bk, Q_ct, Q_xc, evS, evE, evEs, evTg, R.bind_ok, R.thenS_ok, PF.R.ofOpt_some, R.noExc_ok, s_add, s_mul, s_div, s_mod, s_eq, s_lt, s_gt, s_ixR, s_keyS, s_lenR, s_int, s_truRB, List.getElem?_cons_zero, List.getElem?_cons_succ, List.set_cons_zero, List.set_cons_succ, Option.map_some, Option.bind_some, if_true, and_self, true_and, reduceIte, Bool.false_eq_true, decide_true, decide_false, eqT_int, dl_left, dl_at, dl_cells, dl_seed, dl_salt, dp_at, dp_left, dp_salt, dn_five, wipeL, evC, hq, ho', m_gt, hr]
    cases decide (x = t) <;> rfl) hla]
  rfl
theorem all_run {N : Nat} {s t : Tm} {o3 o4 o5 : Option T} (hst : Cls st) (ho : st[o]? = some (oc kvs)) (ht : t.isv = false)
    (ih : ∀ y ∈ t.args, run fns G N 14 [.ref o, s.enc, y.enc] st = .ok (.bl (gt p s y)) st) :
    evE (run fns G N) G cAll [some (.ref o), some s.enc, some t.enc, o3, o4, o5] st = .ok (.rol (t.args.map fun y => .bl (gt p s y))) st := by
  have ho' := ho
  unfold oc at ho'
  have hla : t.args.length ≤ sizeLine := le_size (by have := args_le t; omega)
  unfold cAll evE
  simp only [Ss_cons, Ss_nil, Q_nx, Q_rt, Q_bk, Q_ct, Q_xc, evS, evE, evEs, evTg, R.bind_ok, R.thenS_ok, PF.R.ofOpt_some, R.noExc_ok, s_add, s_mul, s_div, s_mod, s_eq, s_lt, s_gt, s_ixR, s_keyS, s_lenR, s_int, s_truRB, List.getElem?_cons_zero, List.getElem?_cons_succ, List.set_cons_zero, List.set_cons_succ, Option.map_some, Option.bind_some, if_true, and_self, true_and, reduceIte, Bool.false_eq_true, decide_true, decide_false, eqT_int, dl_left, dl_at, dl_cells, dl_seed, dl_salt, dp_at, dp_left, dp_salt, dn_five, evIt, evEo, e_slc ht, s_itT, s_lenT, List.length_map]
  rw [compL_map (enc := enc) (g := fun y => .bl (gt p s y)) (xs := t.args) (fun y hy => by
    have hr := ih y hy
    simp only [Ss_cons, Ss_nil, Q_nx, Q_rt, Q_bk, Q_ct, Q_xc, evS, evE, evEs, evTg, R.bind_ok, R.thenS_ok, PF.R.ofOpt_some, R.noExc_ok, s_add, s_mul, s_div, s_mod, s_eq, s_lt, s_gt, s_ixR, s_keyS, s_lenR, s_int, s_truRB, List.getElem?_cons_zero, List.getElem?_cons_succ, List.set_cons_zero, List.set_cons_succ, Option.map_some, Option.bind_some, if_true, and_self, true_and, reduceIte, Bool.false_eq_true, decide_true, decide_false, eqT_int, dl_left, dl_at, dl_cells, dl_seed, dl_salt, dp_at, dp_left, dp_salt, dn_five, wipeL, evC, ho', m_gt, hr]) hla]
  rfl
theorem greater_step {N : Nat} {s t : Tm} (Kk : RkOk kvs p) (hst : Cls st) (ho : st[o]? = some (oc kvs)) (h2 : s.ht ≤ 12) (h3 : t.ht ≤ 12) (hN : 15 ≤ N)
    (ih1 : ∀ x ∈ s.args, run fns G N 14 [.ref o, x.enc, t.enc] st = .ok (.bl (gt p x t)) st)
    (ih2 : ∀ y ∈ t.args, run fns G N 14 [.ref o, s.enc, y.enc] st = .ok (.bl (gt p s y)) st)
    (ih3 : s.args.length = t.args.length → ∀ x ∈ s.args, ∀ y ∈ t.args, run fns G (N - 1) 14 [.ref o, x.enc, y.enc] st = .ok (.bl (gt p x y)) st) :
    run fns G (N + 1) 14 [.ref o, s.enc, t.enc] st = .ok (.bl (gt p s t)) st := by
  have ho' := ho
  unfold oc at ho'
  rw [run_gc (h := fn_14) (hF := i_Order_is_greater) (ha := rfl)]
  rw [bGt_eq]
  unfold bGt
  simp only [List.map_cons, List.map_nil, Nat.reduceSub, List.replicate, List.cons_append, List.nil_append]
  have v1 := is_variable_r (t := s) (M := N) (by omega) hst
  have v2 := is_variable_r (t := t) (M := N) (by omega) hst
  cases hs : s.isv with
  | true =>
    rw [hs] at v1
    rw [gt_var hs]
    simp only [Ss_cons, Ss_nil, Q_nx, Q_rt, Q_bk, Q_ct, Q_xc, evS, evE, evEs, evTg, R.bind_ok, R.thenS_ok, PF.R.ofOpt_some, R.noExc_ok, s_add, s_mul, s_div, s_mod, s_eq, s_lt, s_gt, s_ixR, s_keyS, s_lenR, s_int, s_truRB, List.getElem?_cons_zero, List.getElem?_cons_succ, List.set_cons_zero, List.set_cons_succ, Option.map_some, Option.bind_some, if_true, and_self, true_and, reduceIte, Bool.false_eq_true, decide_true, decide_false, eqT_int, dl_left, dl_at, dl_cells, dl_seed, dl_salt, dp_at, dp_left, dp_salt, dn_five, v1, s_toR]
    exact gc_same hst rfl
  | false =>
    rw [hs] at v1
    cases ht : t.isv with
    | true =>
      rw [ht] at v2
      cases t <;> first | (cases ht; done) | skip
      rename_i n
      have hv : run fns G N 1 [s.enc] st = .ok (.rod (dk s.vs)) st := run_ok hst (purs_1 s) (variables_in_s s N h2 (by omega))
      rw [gt_v hs]
      simp only [Ss_cons, Ss_nil, Q_nx, Q_rt, Q_bk, Q_ct, Q_xc, evS, evE, evEs, evTg, R.bind_ok, R.thenS_ok, PF.R.ofOpt_some, R.noExc_ok, s_add, s_mul, s_div, s_mod, s_eq, s_lt, s_gt, s_ixR, s_keyS, s_lenR, s_int, s_truRB, List.getElem?_cons_zero, List.getElem?_cons_succ, List.set_cons_zero, List.set_cons_succ, Option.map_some, Option.bind_some, if_true, and_self, true_and, reduceIte, Bool.false_eq_true, decide_true, decide_false, eqT_int, dl_left, dl_at, dl_cells, dl_seed, dl_salt, dp_at, dp_left, dp_salt, dn_five, v1, v2, hv, s_in]
      simp only [Ss_cons, Ss_nil, Q_nx, Q_rt, Q_bk, Q_ct, Q_xc, evS, evE, evEs, evTg, R.bind_ok, R.thenS_ok, PF.R.ofOpt_some, R.noExc_ok, s_add, s_mul, s_div, s_mod, s_eq, s_lt, s_gt, s_ixR, s_keyS, s_lenR, s_int, s_truRB, List.getElem?_cons_zero, List.getElem?_cons_succ, List.set_cons_zero, List.set_cons_succ, Option.map_some, Option.bind_some, if_true, and_self, true_and, reduceIte, Bool.false_eq_true, decide_true, decide_false, eqT_int, dl_left, dl_at, dl_cells, dl_seed, dl_salt, dp_at, dp_left, dp_salt, dn_five, enc, e_in, s_toR]
      exact gc_same hst rfl
    | false =>
      rw [ht] at v2
      rw [gt_nv hs ht]
      have cany := any_run (p := p) (N := N) (s := s) (t := t) (o3 := none) (o4 := none) (o5 := none) hst ho hs (by omega) ih1
      simp only [Ss_cons, Ss_nil, Q_nx, Q_rt, Q_bk, Q_ct, Q_xc, evS, evE, evEs, evTg, R.bind_ok, R.thenS_ok, PF.R.ofOpt_some, R.noExc_ok, s_add, s_mul, s_div, s_mod, s_eq, s_lt, s_gt, s_ixR, s_keyS, s_lenR, s_int, s_truRB, List.getElem?_cons_zero, List.getElem?_cons_succ, List.set_cons_zero, List.set_cons_succ, Option.map_some, Option.bind_some, if_true, and_self, true_and, reduceIte, Bool.false_eq_true, decide_true, decide_false, eqT_int, dl_left, dl_at, dl_cells, dl_seed, dl_salt, dp_at, dp_left, dp_salt, dn_five, v1, v2, cany, s_anyM]
      cases hA : s.args.any (fun x => decide (x = t) || gt p x t) with
      | true =>
        simp only [Ss_cons, Ss_nil, Q_nx, Q_rt, Q_bk, Q_ct, Q_xc, evS, evE, evEs, evTg, R.bind_ok, R.thenS_ok, PF.R.ofOpt_some, R.noExc_ok, s_add, s_mul, s_div, s_mod, s_eq, s_lt, s_gt, s_ixR, s_keyS, s_lenR, s_int, s_truRB, List.getElem?_cons_zero, List.getElem?_cons_succ, List.set_cons_zero, List.set_cons_succ, Option.map_some, Option.bind_some, if_true, and_self, true_and, reduceIte, Bool.false_eq_true, decide_true, decide_false, eqT_int, dl_left, dl_at, dl_cells, dl_seed, dl_salt, dp_at, dp_left, dp_salt, dn_five, s_toR]
        exact gc_same hst rfl
      | false =>
        have r1 := rank_run (st := st) (M := N) (x := s.nm) (by omega) hst ho (Kk.look s hs)
        have r2 := rank_run (st := st) (M := N) (x := t.nm) (by omega) hst ho (Kk.look t ht)
        have call_ := fun o3 o4 => all_run (p := p) (N := N) (s := s) (t := t) (o3 := o3) (o4 := o4) (o5 := none) hst ho ht ih2
        simp only [Ss_cons, Ss_nil, Q_nx, Q_rt, Q_bk, Q_ct, Q_xc, evS, evE, evEs, evTg, R.bind_ok, R.thenS_ok, PF.R.ofOpt_some, R.noExc_ok, s_add, s_mul, s_div, s_mod, s_eq, s_lt, s_gt, s_ixR, s_keyS, s_lenR, s_int, s_truRB, List.getElem?_cons_zero, List.getElem?_cons_succ, List.set_cons_zero, List.set_cons_succ, Option.map_some, Option.bind_some, if_true, and_self, true_and, reduceIte, Bool.false_eq_true, decide_true, decide_false, eqT_int, dl_left, dl_at, dl_cells, dl_seed, dl_salt, dp_at, dp_left, dp_salt, dn_five, ho', m_rank, e_ix0 hs, e_ix0 ht, r1, r2, lt5]
        cases hlt : decide (p t.sym < p s.sym) with
        | true =>
          simp only [Ss_cons, Ss_nil, Q_nx, Q_rt, Q_bk, Q_ct, Q_xc, evS, evE, evEs, evTg, R.bind_ok, R.thenS_ok, PF.R.ofOpt_some, R.noExc_ok, s_add, s_mul, s_div, s_mod, s_eq, s_lt, s_gt, s_ixR, s_keyS, s_lenR, s_int, s_truRB, List.getElem?_cons_zero, List.getElem?_cons_succ, List.set_cons_zero, List.set_cons_succ, Option.map_some, Option.bind_some, if_true, and_self, true_and, reduceIte, Bool.false_eq_true, decide_true, decide_false, eqT_int, dl_left, dl_at, dl_cells, dl_seed, dl_salt, dp_at, dp_left, dp_salt, dn_five, s_toR, Bool.true_or]
          exact gc_same hst rfl
        | false =>
          simp only [Ss_cons, Ss_nil, Q_nx, Q_rt, Q_bk, Q_ct, Q_xc, evS, evE, evEs, evTg, R.bind_ok, R.thenS_ok, PF.R.ofOpt_some, R.noExc_ok, s_add, s_mul, s_div, s_mod, s_eq, s_lt, s_gt, s_ixR, s_keyS, s_lenR, s_int, s_truRB, List.getElem?_cons_zero, List.getElem?_cons_succ, List.set_cons_zero, List.set_cons_succ, Option.map_some, Option.bind_some, if_true, and_self, true_and, reduceIte, Bool.false_eq_true, decide_true, decide_false, eqT_int, dl_left, dl_at, dl_cells, dl_seed, dl_salt, dp_at, dp_left, dp_salt, dn_five, call_, s_allM, Bool.false_or]
          cases hB : t.args.all (fun y => gt p s y) with
          | false =>
            simp only [Ss_cons, Ss_nil, Q_nx, Q_rt, Q_bk, Q_ct, Q_xc, evS, evE, evEs, evTg, R.bind_ok, R.thenS_ok, PF.R.ofOpt_some, R.noExc_ok, s_add, s_mul, s_div, s_mod, s_eq, s_lt, s_gt, s_ixR, s_keyS, s_lenR, s_int, s_truRB, List.getElem?_cons_zero, List.getElem?_cons_succ, List.set_cons_zero, List.set_cons_succ, Option.map_some, Option.bind_some, if_true, and_self, true_and, reduceIte, Bool.false_eq_true, decide_true, decide_false, eqT_int, dl_left, dl_at, dl_cells, dl_seed, dl_salt, dp_at, dp_left, dp_salt, dn_five, s_toR, Bool.not_false]
            exact gc_same hst rfl
          | true =>
            simp only [Ss_cons, Ss_nil, Q_nx, Q_rt, Q_bk, Q_ct, Q_xc, evS, evE, evEs, evTg, R.bind_ok, R.thenS_ok, PF.R.ofOpt_some, R.noExc_ok, s_add, s_mul, s_div, s_mod, s_eq, s_lt, s_gt, s_ixR, s_keyS, s_lenR, s_int, s_truRB, List.getElem?_cons_zero, List.getElem?_cons_succ, List.set_cons_zero, List.set_cons_succ, Option.map_some, Option.bind_some, if_true, and_self, true_and, reduceIte, Bool.false_eq_true, decide_true, decide_false, eqT_int, dl_left, dl_at, dl_cells, dl_seed, dl_salt, dp_at, dp_left, dp_salt, dn_five, Bool.not_true, lt5]
            cases hlt2 : decide (p s.sym < p t.sym) with
            | true =>
              simp only [Ss_cons, Ss_nil, Q_nx, Q_rt, Q_bk, Q_ct, Q_xc, evS, evE, evEs, evTg, R.bind_ok, R.thenS_ok, PF.R.ofOpt_some, R.noExc_ok, s_add, s_mul, s_div, s_mod, s_eq, s_lt, s_gt, s_ixR, s_keyS, s_lenR, s_int, s_truRB, List.getElem?_cons_zero, List.getElem?_cons_succ, List.set_cons_zero, List.set_cons_succ, Option.map_some, Option.bind_some, if_true, and_self, true_and, reduceIte, Bool.false_eq_true, decide_true, decide_false, eqT_int, dl_left, dl_at, dl_cells, dl_seed, dl_salt, dp_at, dp_left, dp_salt, dn_five, s_toR, Bool.true_or]
              exact gc_same hst rfl
            | false =>
              have e0 : p s.sym = p t.sym := by
                simp at hlt hlt2; omega
              have hsym := Kk.ord.inj s t hs ht e0
              have hlen := args_len hsym hs ht
              have hr := row_run (p := p) (N := N - 1) (m := 0) hst ho hlen (fun x hx => by have := ht_arg hx; omega) (ih3 hlen)
              rw [show N - 1 + 1 = N by omega] at hr
              simp only [Ss_cons, Ss_nil, Q_nx, Q_rt, Q_bk, Q_ct, Q_xc, evS, evE, evEs, evTg, R.bind_ok, R.thenS_ok, PF.R.ofOpt_some, R.noExc_ok, s_add, s_mul, s_div, s_mod, s_eq, s_lt, s_gt, s_ixR, s_keyS, s_lenR, s_int, s_truRB, List.getElem?_cons_zero, List.getElem?_cons_succ, List.set_cons_zero, List.set_cons_succ, Option.map_some, Option.bind_some, if_true, and_self, true_and, reduceIte, Bool.false_eq_true, decide_true, decide_false, eqT_int, dl_left, dl_at, dl_cells, dl_seed, dl_salt, dp_at, dp_left, dp_salt, dn_five, Bool.false_or, ho', m_row, evEo, e_slc hs, e_slc ht, hr, s_toR]
              exact gc_same hst rfl
/-- the order of the program is the order -/
theorem greater_run (Kk : RkOk kvs p) (hst : Cls st) (ho : st[o]? = some (oc kvs)) : ∀ (m : Nat) (s t : Tm) (M : Nat), s.ht + t.ht ≤ m → s.ht ≤ 12 → t.ht ≤ 12 → m + 17 ≤ M → run fns G M 14 [.ref o, s.enc, t.enc] st = .ok (.bl (gt p s t)) st := by
  intro m
  induction m using Nat.strongRecOn with
  | _ m ih =>
    intro s t M h1 h2 h3 h4
    obtain ⟨N, rfl⟩ : ∃ N, M = N + 1 := ⟨M - 1, by omega⟩
    refine greater_step Kk hst ho h2 h3 (by omega) (fun x hx => ?_) (fun y hy => ?_) (fun _ x hx y hy => ?_)
    · have := ht_arg hx
      exact ih (m - 1) (by omega) x t N (by omega) (by omega) h3 (by omega)
    · have := ht_arg hy
      exact ih (m - 1) (by omega) s y N (by omega) h2 (by omega) (by omega)
    · have := ht_arg hx
      have := ht_arg hy
      exact ih (m - 2) (by omega) x y (N - 1) (by omega) (by omega) (by omega) (by omega)
end
end Tm
end Lw

end

section
set_option Elab.async false
set_option linter.all false
set_option maxRecDepth 100000
set_option maxHeartbeats 4000000
set_option autoImplicit false
/-! K20I: path_greater. -/
namespace Lw
open PF PySem
/-- a dict made of pairs, one after the other -/
theorem compID_put {α : Type} {enc : α → T} {f : T → PR (Option (T × T))} {g : α → T × T} : ∀ (ys : List α) (kvs : List (T × T)), (∀ y ∈ ys, f (enc y) = .ok (some (g y)) ∧ isKey (g y).1 = true) → kvs.length + ys.length < sizeLine →
    compID f (ys.map enc) kvs = .ok (ys.foldl (fun acc y => dPut (g y).1 (g y).2 acc) kvs)
  | [], kvs, _, _ => by simp [compID]
  | y :: ys, kvs, h, hl => by
    obtain ⟨h1, h2⟩ := h y List.mem_cons_self
    rw [List.length_cons] at hl
    rw [List.map_cons, compID, h1, PR.bind_ok]
    dsimp only
    rw [if_pos ⟨by omega, h2⟩, compID_put ys _ (fun z hz => h z (List.mem_cons_of_mem _ hz)) (by
      have : (dPut (g y).1 (g y).2 kvs).length ≤ kvs.length + 1 := by
        unfold dPut
        split
        · rw [List.length_map]; omega
        · rw [List.length_append]; simp
      omega)]
    rfl
def tru1 (rw : List Str) : List (T × T) := rw.foldl (fun acc x => dPut (.str x) (.bl true) acc) []
def rkD (rw : List Str) : List (T × T) := rw.zipIdx.foldl (fun acc y => dPut (.str y.1) (.int ((rw.length : Int) - (y.2 : Int))) acc) []
/-- a row as the program meets it -/
structure RowT (t : T) (rw : List Str) : Prop where
  seq : pseq (.v t) = some (rw.map .str)
  pur : Pur t
theorem RowT.tup (rw : List Str) : RowT (.tup (rw.map .str)) rw := ⟨rfl, by
  show T.lims 0 _ = true
  induction rw with
  | nil => rfl
  | cons x r ih => simp only [List.map_cons, T.lims, T.lim, ih, Bool.and_self]⟩
theorem RowT.ctp (rw : List Str) : RowT (.ctp (rw.map .str)) rw := ⟨rfl, (RowT.tup rw).pur⟩
section
variable {t : T} {rw : List Str} {cl : PCall}
theorem RowT.walk (h : RowT t rw) : pwalk true (.v t) = some (rw.map .str) := by
  have e1 : pseqO true (.v t) = pseq (.v t) := rfl
  unfold pwalk
  rw [e1, h.seq]
theorem RowT.seqO (h : RowT t rw) : pseqO true (.v t) = some (rw.map .str) := by
  have e1 : pseqO true (.v t) = pseq (.v t) := rfl
  rw [e1, h.seq]
theorem RowT.len (h : RowT t rw) : pbfn .len [.v t] = .ok (.v (.int rw.length)) := by
  have e := h.seq
  cases t <;> first | (cases e; done) | skip
  all_goals
    simp only [pbfn, e, List.length_map]
end
theorem zip_map {rw : List Str} : (rw.map T.str).mapIdx (fun i x => T.tup [.int (i : Int), x]) = rw.zipIdx.map fun y => T.tup [.int (y.2 : Int), .str y.1] := by
  apply List.ext_getElem?
  intro i
  rw [List.getElem?_mapIdx, List.getElem?_map, List.getElem?_map, List.getElem?_zipIdx]
  cases rw[i]? <;> simp
theorem init_p {N : Nat} {t : T} {rw : List Str} (h : RowT t rw) (hl : rw.length < 100) : pE (prun fns G N) G (.dcomp false (.tup (.cons (.nm 2) (.cons (.nm 3) .nil))) (.enum (.var 1)) .none (.var 3) (.bin .Sub (.bcall .len (.cons (.var 1) .nil)) (.var 2)) [2, 3]) [none, some (.v t), none, none] = .ok (.v (.rod (rkD rw))) := by
  have cr : compID (cBD (prun fns G N) G (.tup (.cons (.nm 2) (.cons (.nm 3) .nil))) .none (.var 3) (.bin .Sub (.bcall .len (.cons (.var 1) .nil)) (.var 2)) [2, 3] [none, some (.v t), none, none]) (rw.zipIdx.map fun y => T.tup [.int (y.2 : Int), .str y.1]) [] = .ok (rkD rw) :=
    compID_put (enc := fun y : Str × Nat => T.tup [.int (y.2 : Int), .str y.1]) (g := fun y => (.str y.1, .int ((rw.length : Int) - (y.2 : Int)))) rw.zipIdx [] (fun y hy => ⟨by simp only [pE.eq_1, pE.eq_2, pE.eq_3, pE.eq_4, pE.eq_5, pE.eq_6, pE.eq_7, pE.eq_8, pE.eq_9, pE.eq_10, pE.eq_11, pE.eq_12, pE.eq_13, pE.eq_14, pE.eq_15, pE.eq_16, pE.eq_17, pE.eq_18, pE.eq_19, pE.eq_20, pE.eq_21, pE.eq_22, pE.eq_23, pE.eq_24, pE.eq_25, pE.eq_26, pS.eq_1, pS.eq_2, pS.eq_3, pS.eq_4, pS.eq_5, pS.eq_6, pS.eq_7, pS.eq_8, pS.eq_9, pS.eq_10, pS.eq_11, pS.eq_12, pS.eq_13, pS.eq_14, pS.eq_15, pS.eq_16, pS.eq_17, pS.eq_18, pS.eq_19, pS.eq_22, pS.eq_24, pNew.eq_1, pNew.eq_2, pNew.eq_3, pNew.eq_4, pNew.eq_5, pNew.eq_6, pNew.eq_7, pE_comp, pE_comp2, pE_dcomp, pS_for, isNew, pSs_cons, pSs_nil, q_nx, q_rt, q_bk, q_ct, q_xc, pEs, pAs, pKV, pEo, pC, pIt, pwalk, pTg, pTgs, cB, cBD, pwipe, PR.bind_ok, PR.bind_exc, PR.ofOpt_some, PR.noExc_ok, PR.thenS_ok, PR.thenS_exc, PC.val_v, PRS.noXc, r_nx, r_rt, r_xc, a_v, a_l, a_bl, T.lim, o_add, o_sub, o_mul, o_div, o_mod, o_addT, o_addLL, o_eq, o_ne, o_lt, o_le, o_gt, o_ge, o_isN, o_isnN, o_isB, o_isnB, o_isT, o_isnT, o_isI, o_isnI, o_isL, o_isnL, eqv_int, o_ixT, o_ixR, o_ixl, o_ixbl, o_slcT, o_slcR, o_slcl, o_revT, o_revR, o_lenT, o_lenR, o_lenl, o_lenbl, o_lenD, o_lend, o_abs, o_int, o_intB, o_tupT, o_tupR, o_tupl, o_lstT, o_lstR, o_min2, o_max2, o_srt, o_repr, t_b, t_i, t_t, t_r, t_l, t_n, y_t, y_r, y_l, y_bl, z_t, z_r, l_r, l_l, it_sq, it_rng, it_rngC, it_zip, PIt.items_enum, List.getElem?_cons_zero, List.getElem?_cons_succ, List.set_cons_zero, List.set_cons_succ, Option.map_some, Option.bind_some, if_true, and_self, true_and, and_true, reduceIte, Bool.not_true, Bool.not_false, Bool.false_eq_true, Tgs.len, List.length_cons, List.length_nil, Nat.zero_add, Nat.reduceAdd, decide_true, decide_false, h.len], rfl⟩) (by
      simp only [List.length_nil, List.length_zipIdx, Nat.zero_add]; exact lt_size (by omega))
  simp only [pE.eq_1, pE.eq_2, pE.eq_3, pE.eq_4, pE.eq_5, pE.eq_6, pE.eq_7, pE.eq_8, pE.eq_9, pE.eq_10, pE.eq_11, pE.eq_12, pE.eq_13, pE.eq_14, pE.eq_15, pE.eq_16, pE.eq_17, pE.eq_18, pE.eq_19, pE.eq_20, pE.eq_21, pE.eq_22, pE.eq_23, pE.eq_24, pE.eq_25, pE.eq_26, pS.eq_1, pS.eq_2, pS.eq_3, pS.eq_4, pS.eq_5, pS.eq_6, pS.eq_7, pS.eq_8, pS.eq_9, pS.eq_10, pS.eq_11, pS.eq_12, pS.eq_13, pS.eq_14, pS.eq_15, pS.eq_16, pS.eq_17, pS.eq_18, pS.eq_19, pS.eq_22, pS.eq_24, pNew.eq_1, pNew.eq_2, pNew.eq_3, pNew.eq_4, pNew.eq_5, pNew.eq_6, pNew.eq_7, pE_comp, pE_comp2, pE_dcomp, pS_for, isNew, pSs_cons, pSs_nil, q_nx, q_rt, q_bk, q_ct, q_xc, pEs, pAs, pKV, pEo, pC, pIt, pwalk, pTg, pTgs, cB, cBD, pwipe, PR.bind_ok, PR.bind_exc, PR.ofOpt_some, PR.noExc_ok, PR.thenS_ok, PR.thenS_exc, PC.val_v, PRS.noXc, r_nx, r_rt, r_xc, a_v, a_l, a_bl, T.lim, o_add, o_sub, o_mul, o_div, o_mod, o_addT, o_addLL, o_eq, o_ne, o_lt, o_le, o_gt, o_ge, o_isN, o_isnN, o_isB, o_isnB, o_isT, o_isnT, o_isI, o_isnI, o_isL, o_isnL, eqv_int, o_ixT, o_ixR, o_ixl, o_ixbl, o_slcT, o_slcR, o_slcl, o_revT, o_revR, o_lenT, o_lenR, o_lenl, o_lenbl, o_lenD, o_lend, o_abs, o_int, o_intB, o_tupT, o_tupR, o_tupl, o_lstT, o_lstR, o_min2, o_max2, o_srt, o_repr, t_b, t_i, t_t, t_r, t_l, t_n, y_t, y_r, y_l, y_bl, z_t, z_r, l_r, l_l, it_sq, it_rng, it_rngC, it_zip, PIt.items_enum, List.getElem?_cons_zero, List.getElem?_cons_succ, List.set_cons_zero, List.set_cons_succ, Option.map_some, Option.bind_some, if_true, and_self, true_and, and_true, reduceIte, Bool.not_true, Bool.not_false, Bool.false_eq_true, Tgs.len, List.length_cons, List.length_nil, Nat.zero_add, Nat.reduceAdd, decide_true, decide_false, h.seqO, zip_map, cr]
theorem key_p {N : Nat} {t a b : T} {rw : List Str} (h : RowT t rw) (hl : rw.length < 100) : pE (prun fns G N) G (.dcomp false (.nm 3) (.val (.var 0)) .none (.var 3) (.cst (.bl true)) [3]) [some (.v t), some (.v a), some (.v b), none] = .ok (.v (.rod (tru1 rw))) := by
  have cr : compID (cBD (prun fns G N) G (.nm 3) .none (.var 3) (.cst (.bl true)) [3] [some (.v t), some (.v a), some (.v b), none]) (rw.map .str) [] = .ok (tru1 rw) :=
    compID_put (enc := T.str) (g := fun y => (.str y, .bl true)) rw [] (fun y hy => ⟨by simp only [pE.eq_1, pE.eq_2, pE.eq_3, pE.eq_4, pE.eq_5, pE.eq_6, pE.eq_7, pE.eq_8, pE.eq_9, pE.eq_10, pE.eq_11, pE.eq_12, pE.eq_13, pE.eq_14, pE.eq_15, pE.eq_16, pE.eq_17, pE.eq_18, pE.eq_19, pE.eq_20, pE.eq_21, pE.eq_22, pE.eq_23, pE.eq_24, pE.eq_25, pE.eq_26, pS.eq_1, pS.eq_2, pS.eq_3, pS.eq_4, pS.eq_5, pS.eq_6, pS.eq_7, pS.eq_8, pS.eq_9, pS.eq_10, pS.eq_11, pS.eq_12, pS.eq_13, pS.eq_14, pS.eq_15, pS.eq_16, pS.eq_17, pS.eq_18, pS.eq_19, pS.eq_22, pS.eq_24, pNew.eq_1, pNew.eq_2, pNew.eq_3, pNew.eq_4, pNew.eq_5, pNew.eq_6, pNew.eq_7, pE_comp, pE_comp2, pE_dcomp, pS_for, isNew, pSs_cons, pSs_nil, q_nx, q_rt, q_bk, q_ct, q_xc, pEs, pAs, pKV, pEo, pC, pIt, pwalk, pTg, pTgs, cB, cBD, pwipe, PR.bind_ok, PR.bind_exc, PR.ofOpt_some, PR.noExc_ok, PR.thenS_ok, PR.thenS_exc, PC.val_v, PRS.noXc, r_nx, r_rt, r_xc, a_v, a_l, a_bl, T.lim, o_add, o_sub, o_mul, o_div, o_mod, o_addT, o_addLL, o_eq, o_ne, o_lt, o_le, o_gt, o_ge, o_isN, o_isnN, o_isB, o_isnB, o_isT, o_isnT, o_isI, o_isnI, o_isL, o_isnL, eqv_int, o_ixT, o_ixR, o_ixl, o_ixbl, o_slcT, o_slcR, o_slcl, o_revT, o_revR, o_lenT, o_lenR, o_lenl, o_lenbl, o_lenD, o_lend, o_abs, o_int, o_intB, o_tupT, o_tupR, o_tupl, o_lstT, o_lstR, o_min2, o_max2, o_srt, o_repr, t_b, t_i, t_t, t_r, t_l, t_n, y_t, y_r, y_l, y_bl, z_t, z_r, l_r, l_l, it_sq, it_rng, it_rngC, it_zip, PIt.items_enum, List.getElem?_cons_zero, List.getElem?_cons_succ, List.set_cons_zero, List.set_cons_succ, Option.map_some, Option.bind_some, if_true, and_self, true_and, and_true, reduceIte, Bool.not_true, Bool.not_false, Bool.false_eq_true, Tgs.len, List.length_cons, List.length_nil, Nat.zero_add, Nat.reduceAdd, decide_true, decide_false], rfl⟩) (by
      simp only [List.length_nil, Nat.zero_add]; exact lt_size (by omega))
  have hw := h.walk
  unfold pwalk at hw
  simp only [pE.eq_1, pE.eq_2, pE.eq_3, pE.eq_4, pE.eq_5, pE.eq_6, pE.eq_7, pE.eq_8, pE.eq_9, pE.eq_10, pE.eq_11, pE.eq_12, pE.eq_13, pE.eq_14, pE.eq_15, pE.eq_16, pE.eq_17, pE.eq_18, pE.eq_19, pE.eq_20, pE.eq_21, pE.eq_22, pE.eq_23, pE.eq_24, pE.eq_25, pE.eq_26, pS.eq_1, pS.eq_2, pS.eq_3, pS.eq_4, pS.eq_5, pS.eq_6, pS.eq_7, pS.eq_8, pS.eq_9, pS.eq_10, pS.eq_11, pS.eq_12, pS.eq_13, pS.eq_14, pS.eq_15, pS.eq_16, pS.eq_17, pS.eq_18, pS.eq_19, pS.eq_22, pS.eq_24, pNew.eq_1, pNew.eq_2, pNew.eq_3, pNew.eq_4, pNew.eq_5, pNew.eq_6, pNew.eq_7, pE_comp, pE_comp2, pE_dcomp, pS_for, isNew, pSs_cons, pSs_nil, q_nx, q_rt, q_bk, q_ct, q_xc, pEs, pAs, pKV, pEo, pC, pIt, pwalk, pTg, pTgs, cB, cBD, pwipe, PR.bind_ok, PR.bind_exc, PR.ofOpt_some, PR.noExc_ok, PR.thenS_ok, PR.thenS_exc, PC.val_v, PRS.noXc, r_nx, r_rt, r_xc, a_v, a_l, a_bl, T.lim, o_add, o_sub, o_mul, o_div, o_mod, o_addT, o_addLL, o_eq, o_ne, o_lt, o_le, o_gt, o_ge, o_isN, o_isnN, o_isB, o_isnB, o_isT, o_isnT, o_isI, o_isnI, o_isL, o_isnL, eqv_int, o_ixT, o_ixR, o_ixl, o_ixbl, o_slcT, o_slcR, o_slcl, o_revT, o_revR, o_lenT, o_lenR, o_lenl, o_lenbl, o_lenD, o_lend, o_abs, o_int, o_intB, o_tupT, o_tupR, o_tupl, o_lstT, o_lstR, o_min2, o_max2, o_srt, o_repr, t_b, t_i, t_t, t_r, t_l, t_n, y_t, y_r, y_l, y_bl, z_t, z_r, l_r, l_l, it_sq, it_rng, it_rngC, it_zip, PIt.items_enum, List.getElem?_cons_zero, List.getElem?_cons_succ, List.set_cons_zero, List.set_cons_succ, Option.map_some, Option.bind_some, if_true, and_self, true_and, and_true, reduceIte, Bool.not_true, Bool.not_false, Bool.false_eq_true, Tgs.len, List.length_cons, List.length_nil, Nat.zero_add, Nat.reduceAdd, decide_true, decide_false, hw, cr]
theorem lims_str (rw : List Str) : Purs (rw.map T.str) := (RowT.tup rw).pur
theorem pur_rk (rw : List Str) : PurK (rkD rw) := by
  unfold rkD
  have key : ∀ (l : List (Str × Nat)) (acc : List (T × T)), PurK acc → PurK (l.foldl (fun acc y => dPut (.str y.1) (.int ((rw.length : Int) - (y.2 : Int))) acc) acc) := by
    intro l
    induction l with
    | nil => intro acc h; exact h
    | cons y l ih => intro acc h; exact ih _ (pur_put h rfl rfl)
  exact key _ _ rfl
/-! ### __init__ -/
theorem init_run {N : Nat} {st : Store} {t : T} {rw : List Str} (hst : Cls st) (h : RowT t rw) (hl : rw.length < 100) : run fns G (N + 1) 12 [.ref st.length, t] (st ++ [.ins 1000 []]) = .ok .non (st ++ [oc (rkD rw)]) := by
  have hst1 : Cls (st ++ [.ins 1000 []]) := hst.app (by rfl)
  rw [run_gc (h := fn_12) (hF := i_Order___init__) (ha := rfl)]
  unfold b_Order___init__
  simp only [List.map_cons, List.map_nil, Nat.reduceSub, List.replicate, List.cons_append, List.nil_append]
  have e : evE (run fns G N) G (.dcomp false (.tup (.cons (.nm 2) (.cons (.nm 3) .nil))) (.enum (.var 1)) .none (.var 3) (.bin .Sub (.bcall .len (.cons (.var 1) .nil)) (.var 2)) [2, 3]) [some (.ref st.length), some t, none, none] (st ++ [.ins 1000 []]) = .ok (.rod (rkD rw)) (st ++ [.ins 1000 []]) :=
    ev_pure N hst1 (ps := [none, some (.v t), none, none]) (.no (.v h.pur (.no (.no .nil)))) (init_p h hl)
  have g0 : (st ++ [Cell.ins 1000 []])[st.length]? = some (.ins 1000 []) := by simp
  have hpl : (0 : Nat) < 999 ∧ G.fld 1000 s_ranks = true := ⟨by omega, flK⟩
  have hset : (st ++ [Cell.ins 1000 []]).set st.length (.ins 1000 (putL s_ranks (.rod (rkD rw)) [])) = st ++ [oc (rkD rw)] := by
    simp [List.set_append, oc, putL]
  rw [Ss_cons]
  conv => lhs; arg 2; arg 1; arg 1; unfold evS
  rw [e, R.thenS_ok]
  unfold evTg
  simp only [Ss_cons, Ss_nil, Q_nx, Q_rt, Q_bk, Q_ct, Q_xc, evS, evE, evEs, evTg, R.bind_ok, R.thenS_ok, PF.R.ofOpt_some, R.noExc_ok, s_add, s_mul, s_div, s_mod, s_eq, s_lt, s_gt, s_ixR, s_keyS, s_lenR, s_int, s_truRB, List.getElem?_cons_zero, List.getElem?_cons_succ, List.set_cons_zero, List.set_cons_succ, Option.map_some, Option.bind_some, if_true, and_self, true_and, reduceIte, Bool.false_eq_true, decide_true, decide_false, eqT_int, dl_left, dl_at, dl_cells, dl_seed, dl_salt, dp_at, dp_left, dp_salt, dn_five, g0, List.length_nil, hpl, hset]
  have hl1 : (st ++ [Cell.ins 1000 []]).length = (st ++ [oc (rkD rw)]).length := by simp
  have hc : Cls (st ++ [oc (rkD rw)]) := hst.app (by
    show ([(s_ranks, T.rod (rkD rw))].all (·.2.lim (st.length + 1))) = true
    have := pur_rod.mpr (pur_rk rw)
    simp only [List.all_cons, List.all_nil, Bool.and_true]
    exact T.lim_le (Nat.zero_le _) this)
  rw [hl1]
  exact gc_same hc rfl
theorem cls_oc {st : Store} (hst : Cls st) (rw : List Str) : Cls (st ++ [oc (rkD rw)]) := hst.app (by
    show ([(s_ranks, T.rod (rkD rw))].all (·.2.lim (st.length + 1))) = true
    have := pur_rod.mpr (pur_rk rw)
    simp only [List.all_cons, List.all_nil, Bool.and_true]
    exact T.lim_le (Nat.zero_le _) this)
/-! ### path_greater -/
theorem path_run {N : Nat} {st : Store} {t a b : T} {rw : List Str} (hst : Cls st) (h : RowT t rw) (ha : Pur a) (hb : Pur b) (hl : rw.length < 100) :
    run fns G (N + 3) 2 [t, a, b] st = if (tru1 rw).length < rw.length then .exc ⟨1, []⟩ st else gc st.length (run fns G (N + 2) 14 [.ref st.length, a, b] (st ++ [oc (rkD rw)])) := by
  rw [run_gc (h := fn_2) (hF := i_path_greater) (ha := rfl)]
  unfold b_path_greater
  simp only [List.map_cons, List.map_nil, Nat.reduceSub, List.replicate, List.cons_append, List.nil_append]
  have hk : evE (run fns G (N + 2)) G (.cmp .Lt (.bcall .len (.cons (.dcomp false (.nm 3) (.val (.var 0)) .none (.var 3) (.cst (.bl true)) [3]) .nil)) (.bcall .len (.cons (.var 0) .nil))) [some t, some a, some b, none] st = .ok (.bl (decide ((tru1 rw).length < rw.length))) st :=
    ev_pure (N + 2) hst (ps := [some (.v t), some (.v a), some (.v b), none]) (.v h.pur (.v ha (.v hb (.no .nil)))) (by
      have k := key_p (N := N + 2) (a := a) (b := b) h hl
      unfold pE
      unfold pE
      unfold pAs pAs
      rw [k]
      simp only [pE.eq_1, pE.eq_2, pE.eq_3, pE.eq_4, pE.eq_5, pE.eq_6, pE.eq_7, pE.eq_8, pE.eq_9, pE.eq_10, pE.eq_11, pE.eq_12, pE.eq_13, pE.eq_14, pE.eq_15, pE.eq_16, pE.eq_17, pE.eq_18, pE.eq_19, pE.eq_20, pE.eq_21, pE.eq_22, pE.eq_23, pE.eq_24, pE.eq_25, pE.eq_26, pS.eq_1, pS.eq_2, pS.eq_3, pS.eq_4, pS.eq_5, pS.eq_6, pS.eq_7, pS.eq_8, pS.eq_9, pS.eq_10, pS.eq_11, pS.eq_12, pS.eq_13, pS.eq_14, pS.eq_15, pS.eq_16, pS.eq_17, pS.eq_18, pS.eq_19, pS.eq_22, pS.eq_24, pNew.eq_1, pNew.eq_2, pNew.eq_3, pNew.eq_4, pNew.eq_5, pNew.eq_6, pNew.eq_7, pE_comp, pE_comp2, pE_dcomp, pS_for, isNew, pSs_cons, pSs_nil, q_nx, q_rt, q_bk, q_ct, q_xc, pEs, pAs, pKV, pEo, pC, pIt, pwalk, pTg, pTgs, cB, cBD, pwipe, PR.bind_ok, PR.bind_exc, PR.ofOpt_some, PR.noExc_ok, PR.thenS_ok, PR.thenS_exc, PC.val_v, PRS.noXc, r_nx, r_rt, r_xc, a_v, a_l, a_bl, T.lim, o_add, o_sub, o_mul, o_div, o_mod, o_addT, o_addLL, o_eq, o_ne, o_lt, o_le, o_gt, o_ge, o_isN, o_isnN, o_isB, o_isnB, o_isT, o_isnT, o_isI, o_isnI, o_isL, o_isnL, eqv_int, o_ixT, o_ixR, o_ixl, o_ixbl, o_slcT, o_slcR, o_slcl, o_revT, o_revR, o_lenT, o_lenR, o_lenl, o_lenbl, o_lenD, o_lend, o_abs, o_int, o_intB, o_tupT, o_tupR, o_tupl, o_lstT, o_lstR, o_min2, o_max2, o_srt, o_repr, t_b, t_i, t_t, t_r, t_l, t_n, y_t, y_r, y_l, y_bl, z_t, z_r, l_r, l_l, it_sq, it_rng, it_rngC, it_zip, PIt.items_enum, List.getElem?_cons_zero, List.getElem?_cons_succ, List.set_cons_zero, List.set_cons_succ, Option.map_some, Option.bind_some, if_true, and_self, true_and, and_true, reduceIte, Bool.not_true, Bool.not_false, Bool.false_eq_true, Tgs.len, List.length_cons, List.length_nil, Nat.zero_add, Nat.reduceAdd, decide_true, decide_false, h.len, Tm.lt_cast])
  have hmk : run fns G (N + 2) (12 + BIG) [.ref st.length, t] (st ++ [.ins (OFF + 0) []]) = .ok .non (st ++ [oc (rkD rw)]) := by
    rw [run_big fns G (by decide) (m := N + 1) fn_12]
    exact init_run hst h hl
  have hin : G.init 0 = some 12 := rfl
  have g0 : (st ++ [oc (rkD rw)])[st.length]? = some (.ins 1000 [(s_ranks, .rod (rkD rw))]) := by simp [oc]
  rw [Ss_cons]
  conv => lhs; arg 2; arg 1; arg 1; unfold evS
  rw [hk, R.bind_ok, s_truRB, R.thenS_ok]
  by_cases hlt : (tru1 rw).length < rw.length
  · rw [if_pos hlt, decide_eq_true hlt]
    simp only [Ss_cons, Ss_nil, Q_nx, Q_rt, Q_bk, Q_ct, Q_xc, evS, evE, evEs, evTg, R.bind_ok, R.thenS_ok, PF.R.ofOpt_some, R.noExc_ok, s_add, s_mul, s_div, s_mod, s_eq, s_lt, s_gt, s_ixR, s_keyS, s_lenR, s_int, s_truRB, List.getElem?_cons_zero, List.getElem?_cons_succ, List.set_cons_zero, List.set_cons_succ, Option.map_some, Option.bind_some, if_true, and_self, true_and, reduceIte, Bool.false_eq_true, decide_true, decide_false, eqT_int, dl_left, dl_at, dl_cells, dl_seed, dl_salt, dp_at, dp_left, dp_salt, dn_five]
    exact gc_sameX hst
  · rw [if_neg hlt, decide_eq_false hlt]
    simp only [Ss_cons, Ss_nil, Q_nx, Q_rt, Q_bk, Q_ct, Q_xc, evS, evE, evEs, evTg, R.bind_ok, R.thenS_ok, PF.R.ofOpt_some, R.noExc_ok, s_add, s_mul, s_div, s_mod, s_eq, s_lt, s_gt, s_ixR, s_keyS, s_lenR, s_int, s_truRB, List.getElem?_cons_zero, List.getElem?_cons_succ, List.set_cons_zero, List.set_cons_succ, Option.map_some, Option.bind_some, if_true, and_self, true_and, reduceIte, Bool.false_eq_true, decide_true, decide_false, eqT_int, dl_left, dl_at, dl_cells, dl_seed, dl_salt, dp_at, dp_left, dp_salt, dn_five, hin, hmk, g0, m_gt]
    cases run fns G (N + 2) 14 [.ref st.length, a, b] (st ++ [oc (rkD rw)]) <;> rfl
namespace Tm
theorem path_ok {p : Nat → Nat} {N : Nat} {st : Store} {tr : T} {rw : List Str} {s t : Tm} (hst : Cls st) (h : RowT tr rw) (hl : rw.length < 100) (hd : ¬ (tru1 rw).length < rw.length) (Kk : RkOk (rkD rw) p) (hs : s.ht ≤ 12) (ht : t.ht ≤ 12) (hN : 40 ≤ N) :
    run fns G (N + 3) 2 [tr, s.enc, t.enc] st = .ok (.bl (gt p s t)) st := by
  rw [path_run hst h (pur_enc s) (pur_enc t) hl, if_neg hd]
  have g0 : (st ++ [oc (rkD rw)])[st.length]? = some (oc (rkD rw)) := by simp
  rw [greater_run Kk (cls_oc hst rw) g0 (s.ht + t.ht) s t (N + 2) (Nat.le_refl _) hs ht (by omega)]
  exact gc_keep hst rfl (by rw [List.take_left])
theorem path_s {p : Nat → Nat} {M : Nat} {tr : T} {rw : List Str} {s t : Tm} (h : RowT tr rw) (hl : rw.length < 100) (hd : ¬ (tru1 rw).length < rw.length) (Kk : RkOk (rkD rw) p) (hs : s.ht ≤ 12) (ht : t.ht ≤ 12) (hM : 43 ≤ M) :
    prun fns G M 2 [.v tr, .v s.enc, .v t.enc] = .ok (.bl (gt p s t)) := by
  obtain ⟨N, rfl⟩ : ∃ N, M = N + 3 := ⟨M - 3, by omega⟩
  have hp : Purs [tr, s.enc, t.enc] := by simp only [Purs, T.lims, Bool.and_eq_true, Bool.and_true]; exact ⟨h.pur, pur_enc s, pur_enc t⟩
  show semP fns G (N + 3) 2 [.v tr, .v s.enc, .v t.enc] = _
  refine semP_ok rfl (fun ts st hst hr => ?_) ⟨[tr, s.enc, t.enc], [], (fun c h => by cases h), relAs_v hp⟩
  have := relAs_inv (us := [tr, s.enc, t.enc]) hr
  subst this
  exact path_ok hst h hl hd Kk hs ht (by omega)
/-- refused -/
theorem path_same {M : Nat} (hM : 43 ≤ M) : prun fns G M 2 [.v (.tup [.str s_f, .str s_f]), .v (c false).enc, .v (c true).enc] = .exc ⟨1, []⟩ := by
  obtain ⟨N, rfl⟩ : ∃ N, M = N + 3 := ⟨M - 3, by omega⟩
  have h := RowT.tup [s_f, s_f]
  have hp : Purs [.tup [.str s_f, .str s_f], (c false).enc, (c true).enc] := rfl
  show semP fns G (N + 3) 2 [.v (.tup [.str s_f, .str s_f]), .v (c false).enc, .v (c true).enc] = _
  refine semP_exc rfl (fun ts st hst hr => ?_) ⟨[.tup [.str s_f, .str s_f], (c false).enc, (c true).enc], [], (fun c h => by cases h), relAs_v hp⟩
  have := relAs_inv (us := [.tup [.str s_f, .str s_f], (c false).enc, (c true).enc]) hr
  subst this
  have q := path_run (N := N) hst h (pur_enc (c false)) (pur_enc (c true)) (by decide)
  rw [if_pos (by decide)] at q
  exact q
def kk : T := .tup [.str s_k, .int 0]
theorem eq_kk {st : Store} : eqT st (c false).enc kk = some false := by
  simp only [eqT, resD, enc, kk, toD, toDs, Option.map_some]
  rw [if_pos (by simp [PyData.depth, PyData.depthAll])]
  congr 1
theorem kk_v {M : Nat} {st : Store} (hM : 1 ≤ M) (hst : Cls st) : run fns G M 0 [kk] st = .ok (.bl false) st := by
  obtain ⟨N, rfl⟩ : ∃ N, M = N + 1 := ⟨M - 1, by omega⟩
  refine run_ok hst rfl ?_
  show prun fns G (N + 1) 0 [.v kk] = _
  rw [p_is_variable]
  unfold b_is_variable
  have : pbfn (.isi .int) [.v kk] = .ok (.v (.bl false)) := rfl
  simp only [pE.eq_1, pE.eq_2, pE.eq_3, pE.eq_4, pE.eq_5, pE.eq_6, pE.eq_7, pE.eq_8, pE.eq_9, pE.eq_10, pE.eq_11, pE.eq_12, pE.eq_13, pE.eq_14, pE.eq_15, pE.eq_16, pE.eq_17, pE.eq_18, pE.eq_19, pE.eq_20, pE.eq_21, pE.eq_22, pE.eq_23, pE.eq_24, pE.eq_25, pE.eq_26, pS.eq_1, pS.eq_2, pS.eq_3, pS.eq_4, pS.eq_5, pS.eq_6, pS.eq_7, pS.eq_8, pS.eq_9, pS.eq_10, pS.eq_11, pS.eq_12, pS.eq_13, pS.eq_14, pS.eq_15, pS.eq_16, pS.eq_17, pS.eq_18, pS.eq_19, pS.eq_22, pS.eq_24, pNew.eq_1, pNew.eq_2, pNew.eq_3, pNew.eq_4, pNew.eq_5, pNew.eq_6, pNew.eq_7, pE_comp, pE_comp2, pE_dcomp, pS_for, isNew, pSs_cons, pSs_nil, q_nx, q_rt, q_bk, q_ct, q_xc, pEs, pAs, pKV, pEo, pC, pIt, pwalk, pTg, pTgs, cB, cBD, pwipe, PR.bind_ok, PR.bind_exc, PR.ofOpt_some, PR.noExc_ok, PR.thenS_ok, PR.thenS_exc, PC.val_v, PRS.noXc, r_nx, r_rt, r_xc, a_v, a_l, a_bl, T.lim, o_add, o_sub, o_mul, o_div, o_mod, o_addT, o_addLL, o_eq, o_ne, o_lt, o_le, o_gt, o_ge, o_isN, o_isnN, o_isB, o_isnB, o_isT, o_isnT, o_isI, o_isnI, o_isL, o_isnL, eqv_int, o_ixT, o_ixR, o_ixl, o_ixbl, o_slcT, o_slcR, o_slcl, o_revT, o_revR, o_lenT, o_lenR, o_lenl, o_lenbl, o_lenD, o_lend, o_abs, o_int, o_intB, o_tupT, o_tupR, o_tupl, o_lstT, o_lstR, o_min2, o_max2, o_srt, o_repr, t_b, t_i, t_t, t_r, t_l, t_n, y_t, y_r, y_l, y_bl, z_t, z_r, l_r, l_l, it_sq, it_rng, it_rngC, it_zip, PIt.items_enum, List.getElem?_cons_zero, List.getElem?_cons_succ, List.set_cons_zero, List.set_cons_succ, Option.map_some, Option.bind_some, if_true, and_self, true_and, and_true, reduceIte, Bool.not_true, Bool.not_false, Bool.false_eq_true, Tgs.len, List.length_cons, List.length_nil, Nat.zero_add, Nat.reduceAdd, decide_true, decide_false, this]
theorem leaf_exc {N o : Nat} {st : Store} {kvs : List (T × T)} (hst : Cls st) (ho : st[o]? = some (oc kvs)) (hk : dLook (.str s_a) kvs = none) (hN : 1 ≤ N) : run fns G (N + 1) 14 [.ref o, (c false).enc, kk] st = .exc ⟨1, []⟩ st := by
  have ho' := ho
  unfold oc at ho'
  rw [run_gc (h := fn_14) (hF := i_Order_is_greater) (ha := rfl)]
  rw [bGt_eq]
  unfold bGt
  simp only [List.map_cons, List.map_nil, Nat.reduceSub, List.replicate, List.cons_append, List.nil_append]
  have v1 : run fns G N 0 [(c false).enc] st = .ok (.bl false) st := is_variable_r (t := c false) hN hst
  have v2 := kk_v hN hst
  have hany : evE (run fns G N) G cAny [some (.ref o), some (c false).enc, some kk, none, none, none] st = .ok (.rol []) st := by
    unfold cAny evE
    simp only [Ss_cons, Ss_nil, Q_nx, Q_rt, Q_bk, Q_ct, Q_xc, evS, evE, evEs, evTg, R.bind_ok, R.thenS_ok, PF.R.ofOpt_some, R.noExc_ok, s_add, s_mul, s_div, s_mod, s_eq, s_lt, s_gt, s_ixR, s_keyS, s_lenR, s_int, s_truRB, List.getElem?_cons_zero, List.getElem?_cons_succ, List.set_cons_zero, List.set_cons_succ, Option.map_some, Option.bind_some, if_true, and_self, true_and, reduceIte, Bool.false_eq_true, decide_true, decide_false, eqT_int, dl_left, dl_at, dl_cells, dl_seed, dl_salt, dp_at, dp_left, dp_salt, dn_five, evIt, evEo, e_slc (t := c false) rfl, args, List.map_nil, s_itT, s_lenT, List.length_nil]
    rfl
  have ha : bfn .any [.rol []] st = .ok (.bl false) st := rfl
  have r1 := rank_exc (st := st) (M := N) (x := s_a) hN hst ho hk
  simp only [Ss_cons, Ss_nil, Q_nx, Q_rt, Q_bk, Q_ct, Q_xc, evS, evE, evEs, evTg, R.bind_ok, R.thenS_ok, PF.R.ofOpt_some, R.noExc_ok, s_add, s_mul, s_div, s_mod, s_eq, s_lt, s_gt, s_ixR, s_keyS, s_lenR, s_int, s_truRB, List.getElem?_cons_zero, List.getElem?_cons_succ, List.set_cons_zero, List.set_cons_succ, Option.map_some, Option.bind_some, if_true, and_self, true_and, reduceIte, Bool.false_eq_true, decide_true, decide_false, eqT_int, dl_left, dl_at, dl_cells, dl_seed, dl_salt, dp_at, dp_left, dp_salt, dn_five, v1, v2, hany, ha, ho', m_rank, e_ix0 (t := c false) rfl, nm, r1, R.bind_exc, R.thenS_exc]
  exact gc_sameX hst
theorem f_exc {N o : Nat} {st : Store} {kvs : List (T × T)} (hst : Cls st) (ho : st[o]? = some (oc kvs)) (hk : dLook (.str s_a) kvs = none) (hN : 1 ≤ N) : run fns G (N + 2) 14 [.ref o, (f (c false) (c false)).enc, kk] st = .exc ⟨1, []⟩ st := by
  have ho' := ho
  unfold oc at ho'
  rw [run_gc (h := fn_14) (hF := i_Order_is_greater) (ha := rfl)]
  rw [bGt_eq]
  unfold bGt
  simp only [List.map_cons, List.map_nil, Nat.reduceSub, List.replicate, List.cons_append, List.nil_append]
  have v1 : run fns G (N + 1) 0 [(f (c false) (c false)).enc] st = .ok (.bl false) st := is_variable_r (t := f (c false) (c false)) (by omega) hst
  have v2 := kk_v (M := N + 1) (by omega) hst
  have hl := leaf_exc (N := N) hst ho hk hN
  have g0 : (Itv.sq (.tup [(c false).enc, (c false).enc])).get st 0 = some (c false).enc := rfl
  have hany : evE (run fns G (N + 1)) G cAny [some (.ref o), some (f (c false) (c false)).enc, some kk, none, none, none] st = .exc ⟨1, []⟩ st := by
    unfold cAny evE
    simp only [Ss_cons, Ss_nil, Q_nx, Q_rt, Q_bk, Q_ct, Q_xc, evS, evE, evEs, evTg, R.bind_ok, R.thenS_ok, PF.R.ofOpt_some, R.noExc_ok, s_add, s_mul, s_div, s_mod, s_eq, s_lt, s_gt, s_ixR, s_keyS, s_lenR, s_int, s_truRB, List.getElem?_cons_zero, List.getElem?_cons_succ, List.set_cons_zero, List.set_cons_succ, Option.map_some, Option.bind_some, if_true, and_self, true_and, reduceIte, Bool.false_eq_true, decide_true, decide_false, eqT_int, dl_left, dl_at, dl_cells, dl_seed, dl_salt, dp_at, dp_left, dp_salt, dn_five, evIt, evEo, e_slc (t := f (c false) (c false)) rfl, args, List.map_cons, List.map_nil, s_itT, s_lenT, List.length_cons, List.length_nil]
    unfold compL
    rw [g0]
    simp only [Ss_cons, Ss_nil, Q_nx, Q_rt, Q_bk, Q_ct, Q_xc, evS, evE, evEs, evTg, R.bind_ok, R.thenS_ok, PF.R.ofOpt_some, R.noExc_ok, s_add, s_mul, s_div, s_mod, s_eq, s_lt, s_gt, s_ixR, s_keyS, s_lenR, s_int, s_truRB, List.getElem?_cons_zero, List.getElem?_cons_succ, List.set_cons_zero, List.set_cons_succ, Option.map_some, Option.bind_some, if_true, and_self, true_and, reduceIte, Bool.false_eq_true, decide_true, decide_false, eqT_int, dl_left, dl_at, dl_cells, dl_seed, dl_salt, dp_at, dp_left, dp_salt, dn_five, wipeL, evC, eq_kk, ho', m_gt, hl, R.bind_exc]
  simp only [Ss_cons, Ss_nil, Q_nx, Q_rt, Q_bk, Q_ct, Q_xc, evS, evE, evEs, evTg, R.bind_ok, R.thenS_ok, PF.R.ofOpt_some, R.noExc_ok, s_add, s_mul, s_div, s_mod, s_eq, s_lt, s_gt, s_ixR, s_keyS, s_lenR, s_int, s_truRB, List.getElem?_cons_zero, List.getElem?_cons_succ, List.set_cons_zero, List.set_cons_succ, Option.map_some, Option.bind_some, if_true, and_self, true_and, reduceIte, Bool.false_eq_true, decide_true, decide_false, eqT_int, dl_left, dl_at, dl_cells, dl_seed, dl_salt, dp_at, dp_left, dp_salt, dn_five, v1, v2, hany, R.bind_exc, R.thenS_exc]
  exact gc_sameX hst
theorem path_kk {M : Nat} (hM : 43 ≤ M) : prun fns G M 2 [.v (.tup [.str s_f]), .v (f (c false) (c false)).enc, .v kk] = .exc ⟨1, []⟩ := by
  obtain ⟨N, rfl⟩ : ∃ N, M = N + 3 := ⟨M - 3, by omega⟩
  have h := RowT.tup [s_f]
  have hp : Purs [.tup [.str s_f], (f (c false) (c false)).enc, kk] := rfl
  show semP fns G (N + 3) 2 [.v (.tup [.str s_f]), .v (f (c false) (c false)).enc, .v kk] = _
  refine semP_exc rfl (fun ts st hst hr => ?_) ⟨[.tup [.str s_f], (f (c false) (c false)).enc, kk], [], (fun c h => by cases h), relAs_v hp⟩
  have := relAs_inv (us := [.tup [.str s_f], (f (c false) (c false)).enc, kk]) hr
  subst this
  have q := path_run (N := N) (a := (f (c false) (c false)).enc) (b := kk) hst h rfl rfl (by decide)
  rw [if_neg (by decide)] at q
  have g0 : (st ++ [oc (rkD [s_f])])[st.length]? = some (oc (rkD [s_f])) := by simp
  rw [f_exc (N := N) (cls_oc hst _) g0 rfl (by omega)] at q
  exact q.trans (gc_keepX hst rfl (by rw [List.take_left]))
end Tm
end Lw

end

section
set_option Elab.async false
set_option linter.all false
set_option maxRecDepth 100000
set_option maxHeartbeats 4000000
set_option autoImplicit false
/-! K20J: drawn terms. -/
namespace Lw
open PF PySem
theorem iT {P Q : Prop} (h : P) : if (true : Bool) = true then P else Q := by rw [if_pos rfl]; exact h
theorem iF {P Q : Prop} (h : Q) : if (false : Bool) = true then P else Q := by rw [if_neg (by decide)]; exact h
namespace Tm
/-- drawn: not deep, few variables -/
def Few (d many : Nat) (t : Tm) : Prop := t.ht ≤ d ∧ ∀ m ∈ t.vars, m < many
def dF (d : Nat) : Drs := fun g ts Q => dTake 4 g ts Q ∨ (g = 5 ∧ ∃ e many : Nat, ts = [.int (e : Int), .int (many : Int)] ∧ e < d ∧ many ≤ 2 ∧ ∀ t : Tm, Few e many t → Q t.encP)
theorem takeF {d : Nat} : ∀ ts R, dTake 4 4 ts R → dF d 4 ts R := fun ts R h => .inl h
theorem int_nat {i : Int} {m : Nat} (h0 : 0 ≤ i) (h : i < (m : Int)) : ∃ k : Nat, i = (k : Int) ∧ k < m := ⟨i.toNat, by omega, by omega⟩
theorem first_w {N d many : Nat} {Q : T → Prop} (hd : d ≤ 3) (hm : many ≤ 2) (hQ : ∀ t : Tm, Few d many t → Q t.encP) : wSs (prun fns G N) G (dF d) 0 b__law_first_order (dSl [.int (d : Int), .int (many : Int)] 2) (wFin Q) := by
  unfold b__law_first_order
  have h2 : (2 : Nat) ≤ sizeLine := le_size (by omega)
  have h3 : (3 : Nat) ≤ sizeLine := le_size (by omega)
  have hsl : dSl [.int (d : Int), .int (many : Int)] 2 = [none, some (.v (.int (d : Int))), some (.v (.int (many : Int))), none, none] := rfl
  rw [hsl]
  -- a leaf
  have leaf : wS (prun fns G N) G (dF d) 0 (.ret (.ite (.and (.cmp .Gt (.var 2) (.cst (.int 0))) (.cmp .Eq (.call 4 (.cons (.var 0) (.cons (.cst (.int 2)) .nil))) (.cst (.int 0)))) (.call 4 (.cons (.var 0) (.cons (.var 2) .nil))) (.ix (.lst false (.cons (.cst (.str s_a)) (.cons (.cst (.str s_b)) .nil))) (.call 4 (.cons (.var 0) (.cons (.cst (.int 2)) .nil))))))
      [none, some (.v (.int (d : Int))), some (.v (.int (many : Int))), none, none] (fun r => match r with
    | .nx p => wSs (prun fns G N) G (dF d) 0 .nil p (fun r => match r with
      | .nx p => wSs (prun fns G N) G (dF d) 0 (.cons (.asg (.nm 3) (.ix (.lst false (.cons (.cst (.str s_f)) (.cons (.cst (.str s_g)) (.cons (.cst (.str s_h)) .nil)))) (.call 4 (.cons (.var 0) (.cons (.cst (.int 3)) .nil)))))
  (.cons (.ret (.bin .Add (.tup (.cons (.var 3) .nil)) (.bcall .tuple (.cons (.comp false (.nm 4) (.range (.cons (.ix (.dct false (.cons (.cst (.str s_f)) (.cst (.int 2)) (.cons (.cst (.str s_g)) (.cst (.int 1)) (.cons (.cst (.str s_h)) (.cst (.int 1)) .nil)))) (.var 3)) .nil)) .none (.call 5 (.cons (.var 0) (.cons (.bin .Sub (.var 1) (.cst (.int 1))) (.cons (.var 2) .nil)))) [4]) .nil))))
  .nil)) p (wFin Q)
      | r => wFin Q r)
    | r => match r with
      | .nx p => wSs (prun fns G N) G (dF d) 0 (.cons (.asg (.nm 3) (.ix (.lst false (.cons (.cst (.str s_f)) (.cons (.cst (.str s_g)) (.cons (.cst (.str s_h)) .nil)))) (.call 4 (.cons (.var 0) (.cons (.cst (.int 3)) .nil)))))
  (.cons (.ret (.bin .Add (.tup (.cons (.var 3) .nil)) (.bcall .tuple (.cons (.comp false (.nm 4) (.range (.cons (.ix (.dct false (.cons (.cst (.str s_f)) (.cst (.int 2)) (.cons (.cst (.str s_g)) (.cst (.int 1)) (.cons (.cst (.str s_h)) (.cst (.int 1)) .nil)))) (.var 3)) .nil)) .none (.call 5 (.cons (.var 0) (.cons (.bin .Sub (.var 1) (.cst (.int 1))) (.cons (.var 2) .nil)))) [4]) .nil))))
  .nil)) p (wFin Q)
      | r => wFin Q r) := by
    refine w_ret rfl (w_ite rfl ?_)
    have consts : ∀ (P : T → Prop), (∀ b : Bool, P (c b).encP) → wE (prun fns G N) G (dF d) 0 (.ix (.lst false (.cons (.cst (.str s_a)) (.cons (.cst (.str s_b)) .nil))) (.call 4 (.cons (.var 0) (.cons (.cst (.int 2)) .nil)))) [none, some (.v (.int (d : Int))), some (.v (.int (many : Int))), none, none] P := fun P hP => by
      refine w_ix rfl (w_val rfl (t := .rol [.str s_a, .str s_b]) (by simp only [pE.eq_1, pE.eq_2, pE.eq_3, pE.eq_4, pE.eq_5, pE.eq_6, pE.eq_7, pE.eq_8, pE.eq_9, pE.eq_10, pE.eq_11, pE.eq_12, pE.eq_13, pE.eq_14, pE.eq_15, pE.eq_16, pE.eq_17, pE.eq_18, pE.eq_19, pE.eq_20, pE.eq_21, pE.eq_22, pE.eq_23, pE.eq_24, pE.eq_25, pE.eq_26, pS.eq_1, pS.eq_2, pS.eq_3, pS.eq_4, pS.eq_5, pS.eq_6, pS.eq_7, pS.eq_8, pS.eq_9, pS.eq_10, pS.eq_11, pS.eq_12, pS.eq_13, pS.eq_14, pS.eq_15, pS.eq_16, pS.eq_17, pS.eq_18, pS.eq_19, pS.eq_22, pS.eq_24, pNew.eq_1, pNew.eq_2, pNew.eq_3, pNew.eq_4, pNew.eq_5, pNew.eq_6, pNew.eq_7, pE_comp, pE_comp2, pE_dcomp, pS_for, isNew, pSs_cons, pSs_nil, q_nx, q_rt, q_bk, q_ct, q_xc, pEs, pAs, pKV, pEo, pC, pIt, pwalk, pTg, pTgs, cB, cBD, pwipe, PR.bind_ok, PR.bind_exc, PR.ofOpt_some, PR.noExc_ok, PR.thenS_ok, PR.thenS_exc, PC.val_v, PRS.noXc, r_nx, r_rt, r_xc, a_v, a_l, a_bl, T.lim, o_add, o_sub, o_mul, o_div, o_mod, o_addT, o_addLL, o_eq, o_ne, o_lt, o_le, o_gt, o_ge, o_isN, o_isnN, o_isB, o_isnB, o_isT, o_isnT, o_isI, o_isnI, o_isL, o_isnL, eqv_int, o_ixT, o_ixR, o_ixl, o_ixbl, o_slcT, o_slcR, o_slcl, o_revT, o_revR, o_lenT, o_lenR, o_lenl, o_lenbl, o_lenD, o_lend, o_abs, o_int, o_intB, o_tupT, o_tupR, o_tupl, o_lstT, o_lstR, o_min2, o_max2, o_srt, o_repr, t_b, t_i, t_t, t_r, t_l, t_n, y_t, y_r, y_l, y_bl, z_t, z_r, l_r, l_l, it_sq, it_rng, it_rngC, it_zip, PIt.items_enum, List.getElem?_cons_zero, List.getElem?_cons_succ, List.set_cons_zero, List.set_cons_succ, Option.map_some, Option.bind_some, if_true, and_self, true_and, and_true, reduceIte, Bool.not_true, Bool.not_false, Bool.false_eq_true, Tgs.len, List.length_cons, List.length_nil, Nat.zero_add, Nat.reduceAdd, decide_true, decide_false, h2]) (w_take takeF (by omega) (by omega) fun i h0 h1 => ?_))
      obtain ⟨k, rfl, hk⟩ := int_nat (m := 2) h0 (by simpa using h1)
      match k, hk with
      | 0, _ => exact ⟨_, rfl, hP false⟩
      | 1, _ => exact ⟨_, rfl, hP true⟩
    have fin : ∀ b : Bool, Q (c b).encP := fun b => hQ _ ⟨Nat.zero_le _, fun m hm => by simp [vars] at hm⟩
    refine w_andE rfl (w_val rfl (t := .bl (decide ((0 : Int) < (many : Int)))) (by simp only [pE.eq_1, pE.eq_2, pE.eq_3, pE.eq_4, pE.eq_5, pE.eq_6, pE.eq_7, pE.eq_8, pE.eq_9, pE.eq_10, pE.eq_11, pE.eq_12, pE.eq_13, pE.eq_14, pE.eq_15, pE.eq_16, pE.eq_17, pE.eq_18, pE.eq_19, pE.eq_20, pE.eq_21, pE.eq_22, pE.eq_23, pE.eq_24, pE.eq_25, pE.eq_26, pS.eq_1, pS.eq_2, pS.eq_3, pS.eq_4, pS.eq_5, pS.eq_6, pS.eq_7, pS.eq_8, pS.eq_9, pS.eq_10, pS.eq_11, pS.eq_12, pS.eq_13, pS.eq_14, pS.eq_15, pS.eq_16, pS.eq_17, pS.eq_18, pS.eq_19, pS.eq_22, pS.eq_24, pNew.eq_1, pNew.eq_2, pNew.eq_3, pNew.eq_4, pNew.eq_5, pNew.eq_6, pNew.eq_7, pE_comp, pE_comp2, pE_dcomp, pS_for, isNew, pSs_cons, pSs_nil, q_nx, q_rt, q_bk, q_ct, q_xc, pEs, pAs, pKV, pEo, pC, pIt, pwalk, pTg, pTgs, cB, cBD, pwipe, PR.bind_ok, PR.bind_exc, PR.ofOpt_some, PR.noExc_ok, PR.thenS_ok, PR.thenS_exc, PC.val_v, PRS.noXc, r_nx, r_rt, r_xc, a_v, a_l, a_bl, T.lim, o_add, o_sub, o_mul, o_div, o_mod, o_addT, o_addLL, o_eq, o_ne, o_lt, o_le, o_gt, o_ge, o_isN, o_isnN, o_isB, o_isnB, o_isT, o_isnT, o_isI, o_isnI, o_isL, o_isnL, eqv_int, o_ixT, o_ixR, o_ixl, o_ixbl, o_slcT, o_slcR, o_slcl, o_revT, o_revR, o_lenT, o_lenR, o_lenl, o_lenbl, o_lenD, o_lend, o_abs, o_int, o_intB, o_tupT, o_tupR, o_tupl, o_lstT, o_lstR, o_min2, o_max2, o_srt, o_repr, t_b, t_i, t_t, t_r, t_l, t_n, y_t, y_r, y_l, y_bl, z_t, z_r, l_r, l_l, it_sq, it_rng, it_rngC, it_zip, PIt.items_enum, List.getElem?_cons_zero, List.getElem?_cons_succ, List.set_cons_zero, List.set_cons_succ, Option.map_some, Option.bind_some, if_true, and_self, true_and, and_true, reduceIte, Bool.not_true, Bool.not_false, Bool.false_eq_true, Tgs.len, List.length_cons, List.length_nil, Nat.zero_add, Nat.reduceAdd, decide_true, decide_false]) ⟨_, rfl, ?_⟩)
    by_cases h0 : (0 : Int) < (many : Int)
    · rw [decide_eq_true h0]
      refine iT (w_cmp rfl (w_take takeF (by omega) (by omega) fun i _ _ => w_int ⟨_, eqv_int, decide (i = 0), rfl, ?_⟩))
      cases decide (i = 0) with
      | false => exact iF (consts _ fun b => fin b)
      | true =>
        refine iT (w_draw (w_cons (w_val rfl (t := .int (many : Int)) (by simp only [pE.eq_1, pE.eq_2, pE.eq_3, pE.eq_4, pE.eq_5, pE.eq_6, pE.eq_7, pE.eq_8, pE.eq_9, pE.eq_10, pE.eq_11, pE.eq_12, pE.eq_13, pE.eq_14, pE.eq_15, pE.eq_16, pE.eq_17, pE.eq_18, pE.eq_19, pE.eq_20, pE.eq_21, pE.eq_22, pE.eq_23, pE.eq_24, pE.eq_25, pE.eq_26, pS.eq_1, pS.eq_2, pS.eq_3, pS.eq_4, pS.eq_5, pS.eq_6, pS.eq_7, pS.eq_8, pS.eq_9, pS.eq_10, pS.eq_11, pS.eq_12, pS.eq_13, pS.eq_14, pS.eq_15, pS.eq_16, pS.eq_17, pS.eq_18, pS.eq_19, pS.eq_22, pS.eq_24, pNew.eq_1, pNew.eq_2, pNew.eq_3, pNew.eq_4, pNew.eq_5, pNew.eq_6, pNew.eq_7, pE_comp, pE_comp2, pE_dcomp, pS_for, isNew, pSs_cons, pSs_nil, q_nx, q_rt, q_bk, q_ct, q_xc, pEs, pAs, pKV, pEo, pC, pIt, pwalk, pTg, pTgs, cB, cBD, pwipe, PR.bind_ok, PR.bind_exc, PR.ofOpt_some, PR.noExc_ok, PR.thenS_ok, PR.thenS_exc, PC.val_v, PRS.noXc, r_nx, r_rt, r_xc, a_v, a_l, a_bl, T.lim, o_add, o_sub, o_mul, o_div, o_mod, o_addT, o_addLL, o_eq, o_ne, o_lt, o_le, o_gt, o_ge, o_isN, o_isnN, o_isB, o_isnB, o_isT, o_isnT, o_isI, o_isnI, o_isL, o_isnL, eqv_int, o_ixT, o_ixR, o_ixl, o_ixbl, o_slcT, o_slcR, o_slcl, o_revT, o_revR, o_lenT, o_lenR, o_lenl, o_lenbl, o_lenD, o_lend, o_abs, o_int, o_intB, o_tupT, o_tupR, o_tupl, o_lstT, o_lstR, o_min2, o_max2, o_srt, o_repr, t_b, t_i, t_t, t_r, t_l, t_n, y_t, y_r, y_l, y_bl, z_t, z_r, l_r, l_l, it_sq, it_rng, it_rngC, it_zip, PIt.items_enum, List.getElem?_cons_zero, List.getElem?_cons_succ, List.set_cons_zero, List.set_cons_succ, Option.map_some, Option.bind_some, if_true, and_self, true_and, and_true, reduceIte, Bool.not_true, Bool.not_false, Bool.false_eq_true, Tgs.len, List.length_cons, List.length_nil, Nat.zero_add, Nat.reduceAdd, decide_true, decide_false]) (w_nil (.inl ⟨rfl, (many : Int), rfl, h0, by omega, fun i h0 h1 => ?_⟩)))))
        obtain ⟨k, rfl, hk⟩ := int_nat h0 h1
        exact hQ (v k) ⟨Nat.zero_le _, fun m hm => by simp [vars] at hm; omega⟩
    · rw [decide_eq_false h0]
      exact iF ⟨false, rfl, iF (consts _ fun b => fin b)⟩
  -- the test
  refine w_st (w_ifD rfl (w_orE rfl (w_val rfl (t := .bl (decide ((d : Int) = 0))) (by simp only [pE.eq_1, pE.eq_2, pE.eq_3, pE.eq_4, pE.eq_5, pE.eq_6, pE.eq_7, pE.eq_8, pE.eq_9, pE.eq_10, pE.eq_11, pE.eq_12, pE.eq_13, pE.eq_14, pE.eq_15, pE.eq_16, pE.eq_17, pE.eq_18, pE.eq_19, pE.eq_20, pE.eq_21, pE.eq_22, pE.eq_23, pE.eq_24, pE.eq_25, pE.eq_26, pS.eq_1, pS.eq_2, pS.eq_3, pS.eq_4, pS.eq_5, pS.eq_6, pS.eq_7, pS.eq_8, pS.eq_9, pS.eq_10, pS.eq_11, pS.eq_12, pS.eq_13, pS.eq_14, pS.eq_15, pS.eq_16, pS.eq_17, pS.eq_18, pS.eq_19, pS.eq_22, pS.eq_24, pNew.eq_1, pNew.eq_2, pNew.eq_3, pNew.eq_4, pNew.eq_5, pNew.eq_6, pNew.eq_7, pE_comp, pE_comp2, pE_dcomp, pS_for, isNew, pSs_cons, pSs_nil, q_nx, q_rt, q_bk, q_ct, q_xc, pEs, pAs, pKV, pEo, pC, pIt, pwalk, pTg, pTgs, cB, cBD, pwipe, PR.bind_ok, PR.bind_exc, PR.ofOpt_some, PR.noExc_ok, PR.thenS_ok, PR.thenS_exc, PC.val_v, PRS.noXc, r_nx, r_rt, r_xc, a_v, a_l, a_bl, T.lim, o_add, o_sub, o_mul, o_div, o_mod, o_addT, o_addLL, o_eq, o_ne, o_lt, o_le, o_gt, o_ge, o_isN, o_isnN, o_isB, o_isnB, o_isT, o_isnT, o_isI, o_isnI, o_isL, o_isnL, eqv_int, o_ixT, o_ixR, o_ixl, o_ixbl, o_slcT, o_slcR, o_slcl, o_revT, o_revR, o_lenT, o_lenR, o_lenl, o_lenbl, o_lenD, o_lend, o_abs, o_int, o_intB, o_tupT, o_tupR, o_tupl, o_lstT, o_lstR, o_min2, o_max2, o_srt, o_repr, t_b, t_i, t_t, t_r, t_l, t_n, y_t, y_r, y_l, y_bl, z_t, z_r, l_r, l_l, it_sq, it_rng, it_rngC, it_zip, PIt.items_enum, List.getElem?_cons_zero, List.getElem?_cons_succ, List.set_cons_zero, List.set_cons_succ, Option.map_some, Option.bind_some, if_true, and_self, true_and, and_true, reduceIte, Bool.not_true, Bool.not_false, Bool.false_eq_true, Tgs.len, List.length_cons, List.length_nil, Nat.zero_add, Nat.reduceAdd, decide_true, decide_false, eqv_int]) ⟨_, rfl, ?_⟩)))
  by_cases hz : (d : Int) = 0
  · rw [decide_eq_true hz]
    exact iT ⟨true, rfl, iT (w_st leaf)⟩
  rw [decide_eq_false hz]
  refine iF (w_cmp rfl (w_take takeF (by omega) (by omega) fun i _ _ => w_int ⟨_, eqv_int, decide (i = 0), rfl, ?_⟩))
  cases decide (i = 0) with
  | true => exact iT (w_st leaf)
  | false =>
    refine iF (w_end (w_st (w_asg rfl (by decide) (w_ix rfl (w_val rfl (t := .rol [.str s_f, .str s_g, .str s_h]) (by simp only [pE.eq_1, pE.eq_2, pE.eq_3, pE.eq_4, pE.eq_5, pE.eq_6, pE.eq_7, pE.eq_8, pE.eq_9, pE.eq_10, pE.eq_11, pE.eq_12, pE.eq_13, pE.eq_14, pE.eq_15, pE.eq_16, pE.eq_17, pE.eq_18, pE.eq_19, pE.eq_20, pE.eq_21, pE.eq_22, pE.eq_23, pE.eq_24, pE.eq_25, pE.eq_26, pS.eq_1, pS.eq_2, pS.eq_3, pS.eq_4, pS.eq_5, pS.eq_6, pS.eq_7, pS.eq_8, pS.eq_9, pS.eq_10, pS.eq_11, pS.eq_12, pS.eq_13, pS.eq_14, pS.eq_15, pS.eq_16, pS.eq_17, pS.eq_18, pS.eq_19, pS.eq_22, pS.eq_24, pNew.eq_1, pNew.eq_2, pNew.eq_3, pNew.eq_4, pNew.eq_5, pNew.eq_6, pNew.eq_7, pE_comp, pE_comp2, pE_dcomp, pS_for, isNew, pSs_cons, pSs_nil, q_nx, q_rt, q_bk, q_ct, q_xc, pEs, pAs, pKV, pEo, pC, pIt, pwalk, pTg, pTgs, cB, cBD, pwipe, PR.bind_ok, PR.bind_exc, PR.ofOpt_some, PR.noExc_ok, PR.thenS_ok, PR.thenS_exc, PC.val_v, PRS.noXc, r_nx, r_rt, r_xc, a_v, a_l, a_bl, T.lim, o_add, o_sub, o_mul, o_div, o_mod, o_addT, o_addLL, o_eq, o_ne, o_lt, o_le, o_gt, o_ge, o_isN, o_isnN, o_isB, o_isnB, o_isT, o_isnT, o_isI, o_isnI, o_isL, o_isnL, eqv_int, o_ixT, o_ixR, o_ixl, o_ixbl, o_slcT, o_slcR, o_slcl, o_revT, o_revR, o_lenT, o_lenR, o_lenl, o_lenbl, o_lenD, o_lend, o_abs, o_int, o_intB, o_tupT, o_tupR, o_tupl, o_lstT, o_lstR, o_min2, o_max2, o_srt, o_repr, t_b, t_i, t_t, t_r, t_l, t_n, y_t, y_r, y_l, y_bl, z_t, z_r, l_r, l_l, it_sq, it_rng, it_rngC, it_zip, PIt.items_enum, List.getElem?_cons_zero, List.getElem?_cons_succ, List.set_cons_zero, List.set_cons_succ, Option.map_some, Option.bind_some, if_true, and_self, true_and, and_true, reduceIte, Bool.not_true, Bool.not_false, Bool.false_eq_true, Tgs.len, List.length_cons, List.length_nil, Nat.zero_add, Nat.reduceAdd, decide_true, decide_false, h3]) (w_take takeF (by omega) (by omega) fun j j0 j1 => ?_))))))
    obtain ⟨k, rfl, hk⟩ := int_nat (m := 3) j0 (by simpa using j1)
    obtain ⟨e, rfl⟩ : ∃ e, d = e + 1 := ⟨d - 1, by omega⟩
    have body : ∀ (nm : Str) (n : Nat) (P : T → Prop), n ≤ 2 → pIt (prun fns G N) G false (.range (.cons (.ix (.dct false (.cons (.cst (.str s_f)) (.cst (.int 2)) (.cons (.cst (.str s_g)) (.cst (.int 1)) (.cons (.cst (.str s_h)) (.cst (.int 1)) .nil)))) (.var 3)) .nil)) [none, some (.v (.int ((e + 1 : Nat) : Int))), some (.v (.int (many : Int))), some (.v (.str nm)), none] = .ok (.rng 0 n) →
        (∀ l : List Tm, l.length = n → (∀ t ∈ l, Few e many t) → P (.tup (.str nm :: l.map encP))) →
        wE (prun fns G N) G (dF (e + 1)) 0 (.bin .Add (.tup (.cons (.var 3) .nil)) (.bcall .tuple (.cons (.comp false (.nm 4) (.range (.cons (.ix (.dct false (.cons (.cst (.str s_f)) (.cst (.int 2)) (.cons (.cst (.str s_g)) (.cst (.int 1)) (.cons (.cst (.str s_h)) (.cst (.int 1)) .nil)))) (.var 3)) .nil)) .none (.call 5 (.cons (.var 0) (.cons (.bin .Sub (.var 1) (.cst (.int 1))) (.cons (.var 2) .nil)))) [4]) .nil))) [none, some (.v (.int ((e + 1 : Nat) : Int))), some (.v (.int (many : Int))), some (.v (.str nm)), none] P := fun nm n P hn hJ hP => by
      have h1 : (1 : Nat) ≤ sizeLine := le_size (by omega)
      refine w_bin rfl (w_val rfl (t := .tup [.str nm]) (by simp only [pE.eq_1, pE.eq_2, pE.eq_3, pE.eq_4, pE.eq_5, pE.eq_6, pE.eq_7, pE.eq_8, pE.eq_9, pE.eq_10, pE.eq_11, pE.eq_12, pE.eq_13, pE.eq_14, pE.eq_15, pE.eq_16, pE.eq_17, pE.eq_18, pE.eq_19, pE.eq_20, pE.eq_21, pE.eq_22, pE.eq_23, pE.eq_24, pE.eq_25, pE.eq_26, pS.eq_1, pS.eq_2, pS.eq_3, pS.eq_4, pS.eq_5, pS.eq_6, pS.eq_7, pS.eq_8, pS.eq_9, pS.eq_10, pS.eq_11, pS.eq_12, pS.eq_13, pS.eq_14, pS.eq_15, pS.eq_16, pS.eq_17, pS.eq_18, pS.eq_19, pS.eq_22, pS.eq_24, pNew.eq_1, pNew.eq_2, pNew.eq_3, pNew.eq_4, pNew.eq_5, pNew.eq_6, pNew.eq_7, pE_comp, pE_comp2, pE_dcomp, pS_for, isNew, pSs_cons, pSs_nil, q_nx, q_rt, q_bk, q_ct, q_xc, pEs, pAs, pKV, pEo, pC, pIt, pwalk, pTg, pTgs, cB, cBD, pwipe, PR.bind_ok, PR.bind_exc, PR.ofOpt_some, PR.noExc_ok, PR.thenS_ok, PR.thenS_exc, PC.val_v, PRS.noXc, r_nx, r_rt, r_xc, a_v, a_l, a_bl, T.lim, o_add, o_sub, o_mul, o_div, o_mod, o_addT, o_addLL, o_eq, o_ne, o_lt, o_le, o_gt, o_ge, o_isN, o_isnN, o_isB, o_isnB, o_isT, o_isnT, o_isI, o_isnI, o_isL, o_isnL, eqv_int, o_ixT, o_ixR, o_ixl, o_ixbl, o_slcT, o_slcR, o_slcl, o_revT, o_revR, o_lenT, o_lenR, o_lenl, o_lenbl, o_lenD, o_lend, o_abs, o_int, o_intB, o_tupT, o_tupR, o_tupl, o_lstT, o_lstR, o_min2, o_max2, o_srt, o_repr, t_b, t_i, t_t, t_r, t_l, t_n, y_t, y_r, y_l, y_bl, z_t, z_r, l_r, l_l, it_sq, it_rng, it_rngC, it_zip, PIt.items_enum, List.getElem?_cons_zero, List.getElem?_cons_succ, List.set_cons_zero, List.set_cons_succ, Option.map_some, Option.bind_some, if_true, and_self, true_and, and_true, reduceIte, Bool.not_true, Bool.not_false, Bool.false_eq_true, Tgs.len, List.length_cons, List.length_nil, Nat.zero_add, Nat.reduceAdd, decide_true, decide_false, h1]) (w_bcall rfl (w_cons (w_comp (J := .rng 0 n) (fun _ y => ∃ t : Tm, y = t.encP ∧ Few e many t) rfl rfl hJ (le_size (by show n ≤ _; omega)) rfl rfl ?_ ?_))))
      · intro y hy
        refine ⟨_, pTg_nm, w_draw (w_cons (w_val rfl (t := .int (e : Int)) (by simp only [pE.eq_1, pE.eq_2, pE.eq_3, pE.eq_4, pE.eq_5, pE.eq_6, pE.eq_7, pE.eq_8, pE.eq_9, pE.eq_10, pE.eq_11, pE.eq_12, pE.eq_13, pE.eq_14, pE.eq_15, pE.eq_16, pE.eq_17, pE.eq_18, pE.eq_19, pE.eq_20, pE.eq_21, pE.eq_22, pE.eq_23, pE.eq_24, pE.eq_25, pE.eq_26, pS.eq_1, pS.eq_2, pS.eq_3, pS.eq_4, pS.eq_5, pS.eq_6, pS.eq_7, pS.eq_8, pS.eq_9, pS.eq_10, pS.eq_11, pS.eq_12, pS.eq_13, pS.eq_14, pS.eq_15, pS.eq_16, pS.eq_17, pS.eq_18, pS.eq_19, pS.eq_22, pS.eq_24, pNew.eq_1, pNew.eq_2, pNew.eq_3, pNew.eq_4, pNew.eq_5, pNew.eq_6, pNew.eq_7, pE_comp, pE_comp2, pE_dcomp, pS_for, isNew, pSs_cons, pSs_nil, q_nx, q_rt, q_bk, q_ct, q_xc, pEs, pAs, pKV, pEo, pC, pIt, pwalk, pTg, pTgs, cB, cBD, pwipe, PR.bind_ok, PR.bind_exc, PR.ofOpt_some, PR.noExc_ok, PR.thenS_ok, PR.thenS_exc, PC.val_v, PRS.noXc, r_nx, r_rt, r_xc, a_v, a_l, a_bl, T.lim, o_add, o_sub, o_mul, o_div, o_mod, o_addT, o_addLL, o_eq, o_ne, o_lt, o_le, o_gt, o_ge, o_isN, o_isnN, o_isB, o_isnB, o_isT, o_isnT, o_isI, o_isnI, o_isL, o_isnL, eqv_int, o_ixT, o_ixR, o_ixl, o_ixbl, o_slcT, o_slcR, o_slcl, o_revT, o_revR, o_lenT, o_lenR, o_lenl, o_lenbl, o_lenD, o_lend, o_abs, o_int, o_intB, o_tupT, o_tupR, o_tupl, o_lstT, o_lstR, o_min2, o_max2, o_srt, o_repr, t_b, t_i, t_t, t_r, t_l, t_n, y_t, y_r, y_l, y_bl, z_t, z_r, l_r, l_l, it_sq, it_rng, it_rngC, it_zip, PIt.items_enum, List.getElem?_cons_zero, List.getElem?_cons_succ, List.set_cons_zero, List.set_cons_succ, Option.map_some, Option.bind_some, if_true, and_self, true_and, and_true, reduceIte, Bool.not_true, Bool.not_false, Bool.false_eq_true, Tgs.len, List.length_cons, List.length_nil, Nat.zero_add, Nat.reduceAdd, decide_true, decide_false]; congr 3; omega) (w_cons (w_val rfl (t := .int (many : Int)) (by simp only [pE.eq_1, pE.eq_2, pE.eq_3, pE.eq_4, pE.eq_5, pE.eq_6, pE.eq_7, pE.eq_8, pE.eq_9, pE.eq_10, pE.eq_11, pE.eq_12, pE.eq_13, pE.eq_14, pE.eq_15, pE.eq_16, pE.eq_17, pE.eq_18, pE.eq_19, pE.eq_20, pE.eq_21, pE.eq_22, pE.eq_23, pE.eq_24, pE.eq_25, pE.eq_26, pS.eq_1, pS.eq_2, pS.eq_3, pS.eq_4, pS.eq_5, pS.eq_6, pS.eq_7, pS.eq_8, pS.eq_9, pS.eq_10, pS.eq_11, pS.eq_12, pS.eq_13, pS.eq_14, pS.eq_15, pS.eq_16, pS.eq_17, pS.eq_18, pS.eq_19, pS.eq_22, pS.eq_24, pNew.eq_1, pNew.eq_2, pNew.eq_3, pNew.eq_4, pNew.eq_5, pNew.eq_6, pNew.eq_7, pE_comp, pE_comp2, pE_dcomp, pS_for, isNew, pSs_cons, pSs_nil, q_nx, q_rt, q_bk, q_ct, q_xc, pEs, pAs, pKV, pEo, pC, pIt, pwalk, pTg, pTgs, cB, cBD, pwipe, PR.bind_ok, PR.bind_exc, PR.ofOpt_some, PR.noExc_ok, PR.thenS_ok, PR.thenS_exc, PC.val_v, PRS.noXc, r_nx, r_rt, r_xc, a_v, a_l, a_bl, T.lim, o_add, o_sub, o_mul, o_div, o_mod, o_addT, o_addLL, o_eq, o_ne, o_lt, o_le, o_gt, o_ge, o_isN, o_isnN, o_isB, o_isnB, o_isT, o_isnT, o_isI, o_isnI, o_isL, o_isnL, eqv_int, o_ixT, o_ixR, o_ixl, o_ixbl, o_slcT, o_slcR, o_slcl, o_revT, o_revR, o_lenT, o_lenR, o_lenl, o_lenbl, o_lenD, o_lend, o_abs, o_int, o_intB, o_tupT, o_tupR, o_tupl, o_lstT, o_lstR, o_min2, o_max2, o_srt, o_repr, t_b, t_i, t_t, t_r, t_l, t_n, y_t, y_r, y_l, y_bl, z_t, z_r, l_r, l_l, it_sq, it_rng, it_rngC, it_zip, PIt.items_enum, List.getElem?_cons_zero, List.getElem?_cons_succ, List.set_cons_zero, List.set_cons_succ, Option.map_some, Option.bind_some, if_true, and_self, true_and, and_true, reduceIte, Bool.not_true, Bool.not_false, Bool.false_eq_true, Tgs.len, List.length_cons, List.length_nil, Nat.zero_add, Nat.reduceAdd, decide_true, decide_false]) (w_nil (.inr ⟨rfl, e, many, rfl, by omega, hm, fun t ht => ⟨t, rfl, ht⟩⟩))))))⟩
      · intro ys hys
        obtain ⟨l, rfl, fl, hl⟩ := hys.pick encP (Few e many) fun a b _ h => h
        have hl2 : l.length = n := by rw [fl, PIt.items_len]; rfl
        refine w_nil ⟨.tup (l.map encP), rfl, .tup (.str nm :: l.map encP), ?_, hP l hl2 hl⟩
        rw [o_addT, if_pos (by simp only [List.length_cons, List.length_nil, List.length_map, hl2]; exact le_size (by omega))]
        rfl
    match k, hk with
    | 0, _ =>
      refine ⟨_, rfl, w_st (w_ret rfl (body s_f 2 _ (by omega) (by simp only [pE.eq_1, pE.eq_2, pE.eq_3, pE.eq_4, pE.eq_5, pE.eq_6, pE.eq_7, pE.eq_8, pE.eq_9, pE.eq_10, pE.eq_11, pE.eq_12, pE.eq_13, pE.eq_14, pE.eq_15, pE.eq_16, pE.eq_17, pE.eq_18, pE.eq_19, pE.eq_20, pE.eq_21, pE.eq_22, pE.eq_23, pE.eq_24, pE.eq_25, pE.eq_26, pS.eq_1, pS.eq_2, pS.eq_3, pS.eq_4, pS.eq_5, pS.eq_6, pS.eq_7, pS.eq_8, pS.eq_9, pS.eq_10, pS.eq_11, pS.eq_12, pS.eq_13, pS.eq_14, pS.eq_15, pS.eq_16, pS.eq_17, pS.eq_18, pS.eq_19, pS.eq_22, pS.eq_24, pNew.eq_1, pNew.eq_2, pNew.eq_3, pNew.eq_4, pNew.eq_5, pNew.eq_6, pNew.eq_7, pE_comp, pE_comp2, pE_dcomp, pS_for, isNew, pSs_cons, pSs_nil, q_nx, q_rt, q_bk, q_ct, q_xc, pEs, pAs, pKV, pEo, pC, pIt, pwalk, pTg, pTgs, cB, cBD, pwipe, PR.bind_ok, PR.bind_exc, PR.ofOpt_some, PR.noExc_ok, PR.thenS_ok, PR.thenS_exc, PC.val_v, PRS.noXc, r_nx, r_rt, r_xc, a_v, a_l, a_bl, T.lim, o_add, o_sub, o_mul, o_div, o_mod, o_addT, o_addLL, o_eq, o_ne, o_lt, o_le, o_gt, o_ge, o_isN, o_isnN, o_isB, o_isnB, o_isT, o_isnT, o_isI, o_isnI, o_isL, o_isnL, eqv_int, o_ixT, o_ixR, o_ixl, o_ixbl, o_slcT, o_slcR, o_slcl, o_revT, o_revR, o_lenT, o_lenR, o_lenl, o_lenbl, o_lenD, o_lend, o_abs, o_int, o_intB, o_tupT, o_tupR, o_tupl, o_lstT, o_lstR, o_min2, o_max2, o_srt, o_repr, t_b, t_i, t_t, t_r, t_l, t_n, y_t, y_r, y_l, y_bl, z_t, z_r, l_r, l_l, it_sq, it_rng, it_rngC, it_zip, PIt.items_enum, List.getElem?_cons_zero, List.getElem?_cons_succ, List.set_cons_zero, List.set_cons_succ, Option.map_some, Option.bind_some, if_true, and_self, true_and, and_true, reduceIte, Bool.not_true, Bool.not_false, Bool.false_eq_true, Tgs.len, List.length_cons, List.length_nil, Nat.zero_add, Nat.reduceAdd, decide_true, decide_false]; rfl) fun l hl hf => ?_))⟩
      match l, hl with
      | [x, y], _ =>
        have hx := hf x (by simp)
        have hy := hf y (by simp)
        exact hQ (f x y) ⟨by have := hx.1; have := hy.1; simp only [ht]; omega, fun m hm => by
          simp only [vars, List.mem_append] at hm
          exact hm.elim (hx.2 m) (hy.2 m)⟩
    | 1, _ =>
      refine ⟨_, rfl, w_st (w_ret rfl (body s_g 1 _ (by omega) (by simp only [pE.eq_1, pE.eq_2, pE.eq_3, pE.eq_4, pE.eq_5, pE.eq_6, pE.eq_7, pE.eq_8, pE.eq_9, pE.eq_10, pE.eq_11, pE.eq_12, pE.eq_13, pE.eq_14, pE.eq_15, pE.eq_16, pE.eq_17, pE.eq_18, pE.eq_19, pE.eq_20, pE.eq_21, pE.eq_22, pE.eq_23, pE.eq_24, pE.eq_25, pE.eq_26, pS.eq_1, pS.eq_2, pS.eq_3, pS.eq_4, pS.eq_5, pS.eq_6, pS.eq_7, pS.eq_8, pS.eq_9, pS.eq_10, pS.eq_11, pS.eq_12, pS.eq_13, pS.eq_14, pS.eq_15, pS.eq_16, pS.eq_17, pS.eq_18, pS.eq_19, pS.eq_22, pS.eq_24, pNew.eq_1, pNew.eq_2, pNew.eq_3, pNew.eq_4, pNew.eq_5, pNew.eq_6, pNew.eq_7, pE_comp, pE_comp2, pE_dcomp, pS_for, isNew, pSs_cons, pSs_nil, q_nx, q_rt, q_bk, q_ct, q_xc, pEs, pAs, pKV, pEo, pC, pIt, pwalk, pTg, pTgs, cB, cBD, pwipe, PR.bind_ok, PR.bind_exc, PR.ofOpt_some, PR.noExc_ok, PR.thenS_ok, PR.thenS_exc, PC.val_v, PRS.noXc, r_nx, r_rt, r_xc, a_v, a_l, a_bl, T.lim, o_add, o_sub, o_mul, o_div, o_mod, o_addT, o_addLL, o_eq, o_ne, o_lt, o_le, o_gt, o_ge, o_isN, o_isnN, o_isB, o_isnB, o_isT, o_isnT, o_isI, o_isnI, o_isL, o_isnL, eqv_int, o_ixT, o_ixR, o_ixl, o_ixbl, o_slcT, o_slcR, o_slcl, o_revT, o_revR, o_lenT, o_lenR, o_lenl, o_lenbl, o_lenD, o_lend, o_abs, o_int, o_intB, o_tupT, o_tupR, o_tupl, o_lstT, o_lstR, o_min2, o_max2, o_srt, o_repr, t_b, t_i, t_t, t_r, t_l, t_n, y_t, y_r, y_l, y_bl, z_t, z_r, l_r, l_l, it_sq, it_rng, it_rngC, it_zip, PIt.items_enum, List.getElem?_cons_zero, List.getElem?_cons_succ, List.set_cons_zero, List.set_cons_succ, Option.map_some, Option.bind_some, if_true, and_self, true_and, and_true, reduceIte, Bool.not_true, Bool.not_false, Bool.false_eq_true, Tgs.len, List.length_cons, List.length_nil, Nat.zero_add, Nat.reduceAdd, decide_true, decide_false]; rfl) fun l hl hf => ?_))⟩
      match l, hl with
      | [x], _ =>
        have hx := hf x (by simp)
        exact hQ (u false x) ⟨by have := hx.1; simp only [ht]; omega, fun m hm => hx.2 m hm⟩
    | 2, _ =>
      refine ⟨_, rfl, w_st (w_ret rfl (body s_h 1 _ (by omega) (by simp only [pE.eq_1, pE.eq_2, pE.eq_3, pE.eq_4, pE.eq_5, pE.eq_6, pE.eq_7, pE.eq_8, pE.eq_9, pE.eq_10, pE.eq_11, pE.eq_12, pE.eq_13, pE.eq_14, pE.eq_15, pE.eq_16, pE.eq_17, pE.eq_18, pE.eq_19, pE.eq_20, pE.eq_21, pE.eq_22, pE.eq_23, pE.eq_24, pE.eq_25, pE.eq_26, pS.eq_1, pS.eq_2, pS.eq_3, pS.eq_4, pS.eq_5, pS.eq_6, pS.eq_7, pS.eq_8, pS.eq_9, pS.eq_10, pS.eq_11, pS.eq_12, pS.eq_13, pS.eq_14, pS.eq_15, pS.eq_16, pS.eq_17, pS.eq_18, pS.eq_19, pS.eq_22, pS.eq_24, pNew.eq_1, pNew.eq_2, pNew.eq_3, pNew.eq_4, pNew.eq_5, pNew.eq_6, pNew.eq_7, pE_comp, pE_comp2, pE_dcomp, pS_for, isNew, pSs_cons, pSs_nil, q_nx, q_rt, q_bk, q_ct, q_xc, pEs, pAs, pKV, pEo, pC, pIt, pwalk, pTg, pTgs, cB, cBD, pwipe, PR.bind_ok, PR.bind_exc, PR.ofOpt_some, PR.noExc_ok, PR.thenS_ok, PR.thenS_exc, PC.val_v, PRS.noXc, r_nx, r_rt, r_xc, a_v, a_l, a_bl, T.lim, o_add, o_sub, o_mul, o_div, o_mod, o_addT, o_addLL, o_eq, o_ne, o_lt, o_le, o_gt, o_ge, o_isN, o_isnN, o_isB, o_isnB, o_isT, o_isnT, o_isI, o_isnI, o_isL, o_isnL, eqv_int, o_ixT, o_ixR, o_ixl, o_ixbl, o_slcT, o_slcR, o_slcl, o_revT, o_revR, o_lenT, o_lenR, o_lenl, o_lenbl, o_lenD, o_lend, o_abs, o_int, o_intB, o_tupT, o_tupR, o_tupl, o_lstT, o_lstR, o_min2, o_max2, o_srt, o_repr, t_b, t_i, t_t, t_r, t_l, t_n, y_t, y_r, y_l, y_bl, z_t, z_r, l_r, l_l, it_sq, it_rng, it_rngC, it_zip, PIt.items_enum, List.getElem?_cons_zero, List.getElem?_cons_succ, List.set_cons_zero, List.set_cons_succ, Option.map_some, Option.bind_some, if_true, and_self, true_and, and_true, reduceIte, Bool.not_true, Bool.not_false, Bool.false_eq_true, Tgs.len, List.length_cons, List.length_nil, Nat.zero_add, Nat.reduceAdd, decide_true, decide_false]; rfl) fun l hl hf => ?_))⟩
      match l, hl with
      | [x], _ =>
        have hx := hf x (by simp)
        exact hQ (u true x) ⟨by have := hx.1; simp only [ht]; omega, fun m hm => hx.2 m hm⟩
theorem dr_F : ∀ (d M : Nat), d ≤ 4 → d + 1 ≤ M → DrOk (run fns G M) (dF d) := by
  intro d
  induction d with
  | zero =>
    intro M _ hM
    obtain ⟨N, rfl⟩ : ∃ N, M = N + 1 := ⟨M - 1, by omega⟩
    intro g ts Q hp h
    rcases h with h | ⟨_, e, many, _, he, _⟩
    · exact drTake (N := N) fn_4 i__law_take g ts Q hp h
    · omega
  | succ d ih =>
    intro M hd hM
    obtain ⟨N, rfl⟩ : ∃ N, M = N + 1 := ⟨M - 1, by omega⟩
    intro g ts Q hp h
    rcases h with h | ⟨rfl, e, many, rfl, he, hm, hQ⟩
    · exact drTake (N := N) fn_4 i__law_take g ts Q hp h
    · have ihN := ih N (by omega) (by omega)
      by_cases hed : e < d
      · intro n st cc hst hc hg
        have q := ih (N + 1) (by omega) (by omega) 5 [.int (e : Int), .int (many : Int)] Q hp (.inr ⟨rfl, e, many, rfl, hed, hm, hQ⟩) n st cc hst hc hg
        exact q
      · obtain rfl : e = d := by omega
        exact draw_fn fn_5 i__law_first_order ihN 5 [.int (e : Int), .int (many : Int)] Q hp ⟨rfl, rfl, first_w (by omega) hm hQ⟩
end Tm
end Lw

end

section
set_option Elab.async false
set_option linter.all false
set_option maxRecDepth 100000
set_option maxHeartbeats 4000000
set_option autoImplicit false
/-! K20K: the law. -/
namespace Lw
open PF PySem
namespace Tm
def rws : List (List Str) := [[s_f, s_g, s_h, s_a, s_b], [s_h, s_a, s_f, s_b, s_g], [s_b, s_a, s_h, s_g, s_f], [s_g, s_f, s_a, s_b, s_h]]
def nmS : Nat → Str
  | 0 => s_f
  | 1 => s_g
  | 2 => s_h
  | 3 => s_a
  | _ => s_b
def posOf (rw : List Str) (k : Nat) : Nat := (idxS (nmS k) rw).getD 0
theorem sym_lt {t : Tm} (h : t.isv = false) : t.sym < 5 := by
  cases t with
  | v n => cases h
  | c b => cases b <;> decide
  | u b a => cases b <;> simp [sym]
  | f x y => simp [sym]
theorem nm_sym {t : Tm} (h : t.isv = false) : t.nm = nmS t.sym := by
  cases t with
  | v n => cases h
  | c b => cases b <;> rfl
  | u b a => cases b <;> rfl
  | f x y => rfl
structure Good (rw : List Str) (p : Nat → Nat) : Prop where
  row : RowOk rw p
  rk : RkOk (rkD rw) p
  nd : ¬ (tru1 rw).length < rw.length
  len : rw.length < 100
def lookI (k : T) (kvs : List (T × T)) : Option Int := (dLook k kvs).bind intO
theorem look_of {k : T} {kvs : List (T × T)} {i : Int} (h : lookI k kvs = some i) : dLook k kvs = some (.int i) := by
  unfold lookI at h
  cases e : dLook k kvs with
  | none => rw [e] at h; cases h
  | some t =>
    rw [e, Option.bind_some] at h
    cases t <;> first | (cases h; done) | skip
    rename_i j
    have : j = i := Option.some.inj h
    rw [this]
theorem good_of {rw : List Str} (h1 : ∀ k, k < 5 → idxS (nmS k) rw = some (posOf rw k)) (h2 : ∀ k, k < 5 → ∀ l, l < 5 → posOf rw k = posOf rw l → k = l) (h3 : ∀ k, k < 5 → lookI (.str (nmS k)) (rkD rw) = some (5 - (posOf rw k : Int))) (h4 : ¬ (tru1 rw).length < rw.length) (h5 : rw.length < 100) : Good rw (posOf rw) := by
  have O : Ord (posOf rw) := ⟨fun s t hs ht e => h2 _ (sym_lt hs) _ (sym_lt ht) e⟩
  exact ⟨⟨fun t ht => by rw [nm_sym ht]; exact h1 _ (sym_lt ht), O⟩, ⟨fun t ht => by rw [nm_sym ht]; exact look_of (h3 _ (sym_lt ht)), O⟩, h4, h5⟩
theorem good_all : ∀ rw ∈ rws, Good rw (posOf rw) := by
  intro rw hr
  simp only [rws, List.mem_cons, List.mem_nil_iff, or_false] at hr
  rcases hr with rfl | rfl | rfl | rfl
  all_goals exact good_of (by decide) (by decide) (by decide) (by decide) (by decide)
def rowsT : T := .rol (rws.map erow)
def Any (sc : Option PC) (ps : PSl) : Prop := ∃ x3 x4 x5 x6 x7 x8 x9 x10 x11 : Option PC, ps = [sc, none, some (.v rowsT), x3, x4, x5, x6, x7, x8, x9, x10, x11]
theorem row_t (rw : List Str) : RowT (erow rw) rw := RowT.ctp rw
theorem bne_s {x y : Str} : peq (.v (.str x)) (.v (.str y)) = some (x == y) := by
  simp [peq, presD, toD, PyData.depth, PyData.eqv]
section
variable {M : Nat} {rw : List Str} {s t w : Tm}
theorem pg (h : Good rw (posOf rw)) (hM : 43 ≤ M) (hs : s.ht ≤ 12) (ht : t.ht ≤ 12) : prun fns G M 2 [.v (erow rw), .v s.enc, .v t.enc] = .ok (.bl (gt (posOf rw) s t)) := path_s (row_t rw) h.len h.nd h.rk hs ht hM
theorem lg (h : Good rw (posOf rw)) (hM : 43 ≤ M) (hs : s.ht ≤ 12) (ht : t.ht ≤ 12) : prun fns G M 9 [.v (erow rw), .v s.enc, .v t.enc] = .ok (.bl (gt (posOf rw) s t)) := greater_s h.row (s.ht + t.ht) s t M (Nat.le_refl _) hs ht (by omega)
theorem enc_fp : T.tup [.str s_f, s.enc, t.enc] = (f s t).enc := rfl
theorem enc_gp : T.tup [.str s_g, s.enc] = (u false s).enc := rfl
theorem sub_ht {w0 w1 : Tm} {k : Nat} (h0 : w0.ht ≤ k) (h1 : w1.ht ≤ k) : ∀ t : Tm, (t.sub (sg w0 w1)).ht ≤ t.ht + k
  | v 0 => by simp only [sub, sg, ht]; omega
  | v 1 => by simp only [sub, sg, ht]; omega
  | v (n + 2) => by simp only [sub, sg, ht]; omega
  | c b => by simp only [sub, ht]; omega
  | u b a => by have := sub_ht h0 h1 a; simp only [sub, ht]; omega
  | f x y => by have := sub_ht h0 h1 x; have := sub_ht h0 h1 y; simp only [sub, ht]; omega
end
theorem closed_of {d : Nat} {t : Tm} (h : Few d 0 t) : t.vars = [] := by
  cases e : t.vars with
  | nil => rfl
  | cons m r => have := h.2 m (by rw [e]; simp); omega
theorem refused_1 {M : Nat} (hM : 44 ≤ M) : prun fns G M 10 [.v (.tup [.str s_f, .str s_f]), .v (c false).enc, .v (c true).enc] = .ok (.bl true) := by
  obtain ⟨N, rfl⟩ : ∃ N, M = N + 1 := ⟨M - 1, by omega⟩
  rw [p__law_is_refused]
  unfold b__law_is_refused
  have h := path_same (M := N) (by omega)
  simp only [pE.eq_1, pE.eq_2, pE.eq_3, pE.eq_4, pE.eq_5, pE.eq_6, pE.eq_7, pE.eq_8, pE.eq_9, pE.eq_10, pE.eq_11, pE.eq_12, pE.eq_13, pE.eq_14, pE.eq_15, pE.eq_16, pE.eq_17, pE.eq_18, pE.eq_19, pE.eq_20, pE.eq_21, pE.eq_22, pE.eq_23, pE.eq_24, pE.eq_25, pE.eq_26, pS.eq_1, pS.eq_2, pS.eq_3, pS.eq_4, pS.eq_5, pS.eq_6, pS.eq_7, pS.eq_8, pS.eq_9, pS.eq_10, pS.eq_11, pS.eq_12, pS.eq_13, pS.eq_14, pS.eq_15, pS.eq_16, pS.eq_17, pS.eq_18, pS.eq_19, pS.eq_22, pS.eq_24, pNew.eq_1, pNew.eq_2, pNew.eq_3, pNew.eq_4, pNew.eq_5, pNew.eq_6, pNew.eq_7, pE_comp, pE_comp2, pE_dcomp, pS_for, isNew, pSs_cons, pSs_nil, q_nx, q_rt, q_bk, q_ct, q_xc, pEs, pAs, pKV, pEo, pC, pIt, pwalk, pTg, pTgs, cB, cBD, pwipe, PR.bind_ok, PR.bind_exc, PR.ofOpt_some, PR.noExc_ok, PR.thenS_ok, PR.thenS_exc, PC.val_v, PRS.noXc, r_nx, r_rt, r_xc, a_v, a_l, a_bl, T.lim, o_add, o_sub, o_mul, o_div, o_mod, o_addT, o_addLL, o_eq, o_ne, o_lt, o_le, o_gt, o_ge, o_isN, o_isnN, o_isB, o_isnB, o_isT, o_isnT, o_isI, o_isnI, o_isL, o_isnL, eqv_int, o_ixT, o_ixR, o_ixl, o_ixbl, o_slcT, o_slcR, o_slcl, o_revT, o_revR, o_lenT, o_lenR, o_lenl, o_lenbl, o_lenD, o_lend, o_abs, o_int, o_intB, o_tupT, o_tupR, o_tupl, o_lstT, o_lstR, o_min2, o_max2, o_srt, o_repr, t_b, t_i, t_t, t_r, t_l, t_n, y_t, y_r, y_l, y_bl, z_t, z_r, l_r, l_l, it_sq, it_rng, it_rngC, it_zip, PIt.items_enum, List.getElem?_cons_zero, List.getElem?_cons_succ, List.set_cons_zero, List.set_cons_succ, Option.map_some, Option.bind_some, if_true, and_self, true_and, and_true, reduceIte, Bool.not_true, Bool.not_false, Bool.false_eq_true, Tgs.len, List.length_cons, List.length_nil, Nat.zero_add, Nat.reduceAdd, decide_true, decide_false, h]
theorem refused_2 {M : Nat} (hM : 44 ≤ M) : prun fns G M 10 [.v (.tup [.str s_f]), .v (f (c false) (c false)).enc, .v kk] = .ok (.bl true) := by
  obtain ⟨N, rfl⟩ : ∃ N, M = N + 1 := ⟨M - 1, by omega⟩
  rw [p__law_is_refused]
  unfold b__law_is_refused
  have h := path_kk (M := N) (by omega)
  simp only [pE.eq_1, pE.eq_2, pE.eq_3, pE.eq_4, pE.eq_5, pE.eq_6, pE.eq_7, pE.eq_8, pE.eq_9, pE.eq_10, pE.eq_11, pE.eq_12, pE.eq_13, pE.eq_14, pE.eq_15, pE.eq_16, pE.eq_17, pE.eq_18, pE.eq_19, pE.eq_20, pE.eq_21, pE.eq_22, pE.eq_23, pE.eq_24, pE.eq_25, pE.eq_26, pS.eq_1, pS.eq_2, pS.eq_3, pS.eq_4, pS.eq_5, pS.eq_6, pS.eq_7, pS.eq_8, pS.eq_9, pS.eq_10, pS.eq_11, pS.eq_12, pS.eq_13, pS.eq_14, pS.eq_15, pS.eq_16, pS.eq_17, pS.eq_18, pS.eq_19, pS.eq_22, pS.eq_24, pNew.eq_1, pNew.eq_2, pNew.eq_3, pNew.eq_4, pNew.eq_5, pNew.eq_6, pNew.eq_7, pE_comp, pE_comp2, pE_dcomp, pS_for, isNew, pSs_cons, pSs_nil, q_nx, q_rt, q_bk, q_ct, q_xc, pEs, pAs, pKV, pEo, pC, pIt, pwalk, pTg, pTgs, cB, cBD, pwipe, PR.bind_ok, PR.bind_exc, PR.ofOpt_some, PR.noExc_ok, PR.thenS_ok, PR.thenS_exc, PC.val_v, PRS.noXc, r_nx, r_rt, r_xc, a_v, a_l, a_bl, T.lim, o_add, o_sub, o_mul, o_div, o_mod, o_addT, o_addLL, o_eq, o_ne, o_lt, o_le, o_gt, o_ge, o_isN, o_isnN, o_isB, o_isnB, o_isT, o_isnT, o_isI, o_isnI, o_isL, o_isnL, eqv_int, o_ixT, o_ixR, o_ixl, o_ixbl, o_slcT, o_slcR, o_slcl, o_revT, o_revR, o_lenT, o_lenR, o_lenl, o_lenbl, o_lenD, o_lend, o_abs, o_int, o_intB, o_tupT, o_tupR, o_tupl, o_lstT, o_lstR, o_min2, o_max2, o_srt, o_repr, t_b, t_i, t_t, t_r, t_l, t_n, y_t, y_r, y_l, y_bl, z_t, z_r, l_r, l_l, it_sq, it_rng, it_rngC, it_zip, PIt.items_enum, List.getElem?_cons_zero, List.getElem?_cons_succ, List.set_cons_zero, List.set_cons_succ, Option.map_some, Option.bind_some, if_true, and_self, true_and, and_true, reduceIte, Bool.not_true, Bool.not_false, Bool.false_eq_true, Tgs.len, List.length_cons, List.length_nil, Nat.zero_add, Nat.reduceAdd, decide_true, decide_false, h]
theorem w_drawn {ps : PSl} {P : T → Prop} {e many : Nat} {i j : Int} (hi : i = (e : Int)) (hj : j = (many : Int)) (he : e < 4) (hm : many ≤ 2) (h : ∀ t : Tm, Few e many t → P t.enc) :
    wE (prun fns G 229) G (dF 4) 1 (.call 6 (.cons (.call 5 (.cons (.var 1) (.cons (.cst (.int i)) (.cons (.cst (.int j)) .nil)))) .nil)) ps P := by
  subst hi
  subst hj
  refine w_callE (fun _ h => by cases h) rfl (w_draw (w_cons (w_int (w_cons (w_int (w_nil (.inr ⟨rfl, e, many, rfl, he, hm, fun t ht => ?_⟩)))))))
  exact w_nil ⟨t.enc, wrap_s t 229 (by have := ht.1; omega), h t ht⟩
end Tm
open Tm
theorem law_holds : ∀ ns : List Int, ns.length ≤ 63 → ∃ st, run fns G 230 11 [.rol (ns.map .int)] [] = .ok (.bl true) st := by
  intro ns hn
  refine law_fn (N := 228) (s := 10) fn_11 i_law fn_3 i__law_tape (dr_F 4 229 (by omega) (by omega)) ns hn ?_
  have e4 : (itRange [.int 4]).bind PIt.ofI = some (.rng 0 4) := rfl
  have e3 : (itRange [.int 3]).bind PIt.ofI = some (.rng 0 3) := rfl
  have s0 := le_size (k := 0) (by omega)
  have s1 := le_size (k := 1) (by omega)
  have s2 := le_size (k := 2) (by omega)
  have s3 := le_size (k := 3) (by omega)
  have s4 := le_size (k := 4) (by omega)
  have s5 := le_size (k := 5) (by omega)
  refine w_step (sl := [some (.v (.rol (ns.map .int))), none, some (.v rowsT), none, none, none, none, none, none, none, none, none]) rfl ?_ ?_
  · simp only [pE.eq_1, pE.eq_2, pE.eq_3, pE.eq_4, pE.eq_5, pE.eq_6, pE.eq_7, pE.eq_8, pE.eq_9, pE.eq_10, pE.eq_11, pE.eq_12, pE.eq_13, pE.eq_14, pE.eq_15, pE.eq_16, pE.eq_17, pE.eq_18, pE.eq_19, pE.eq_20, pE.eq_21, pE.eq_22, pE.eq_23, pE.eq_24, pE.eq_25, pE.eq_26, pS.eq_1, pS.eq_2, pS.eq_3, pS.eq_4, pS.eq_5, pS.eq_6, pS.eq_7, pS.eq_8, pS.eq_9, pS.eq_10, pS.eq_11, pS.eq_12, pS.eq_13, pS.eq_14, pS.eq_15, pS.eq_16, pS.eq_17, pS.eq_18, pS.eq_19, pS.eq_22, pS.eq_24, pNew.eq_1, pNew.eq_2, pNew.eq_3, pNew.eq_4, pNew.eq_5, pNew.eq_6, pNew.eq_7, pE_comp, pE_comp2, pE_dcomp, pS_for, isNew, pSs_cons, pSs_nil, q_nx, q_rt, q_bk, q_ct, q_xc, pEs, pAs, pKV, pEo, pC, pIt, pwalk, pTg, pTgs, cB, cBD, pwipe, PR.bind_ok, PR.bind_exc, PR.ofOpt_some, PR.noExc_ok, PR.thenS_ok, PR.thenS_exc, PC.val_v, PRS.noXc, r_nx, r_rt, r_xc, a_v, a_l, a_bl, T.lim, o_add, o_sub, o_mul, o_div, o_mod, o_addT, o_addLL, o_eq, o_ne, o_lt, o_le, o_gt, o_ge, o_isN, o_isnN, o_isB, o_isnB, o_isT, o_isnT, o_isI, o_isnI, o_isL, o_isnL, eqv_int, o_ixT, o_ixR, o_ixl, o_ixbl, o_slcT, o_slcR, o_slcl, o_revT, o_revR, o_lenT, o_lenR, o_lenl, o_lenbl, o_lenD, o_lend, o_abs, o_int, o_intB, o_tupT, o_tupR, o_tupl, o_lstT, o_lstR, o_min2, o_max2, o_srt, o_repr, t_b, t_i, t_t, t_r, t_l, t_n, y_t, y_r, y_l, y_bl, z_t, z_r, l_r, l_l, it_sq, it_rng, it_rngC, it_zip, PIt.items_enum, List.getElem?_cons_zero, List.getElem?_cons_succ, List.set_cons_zero, List.set_cons_succ, Option.map_some, Option.bind_some, if_true, and_self, true_and, and_true, reduceIte, Bool.not_true, Bool.not_false, Bool.false_eq_true, Tgs.len, List.length_cons, List.length_nil, Nat.zero_add, Nat.reduceAdd, decide_true, decide_false, List.replicate, s0, s1, s2, s3, s4, s5]
    rfl
  refine w_st (w_for (J := .rng 0 4) (fun xs ps => Any (some (.v (.rol (ns.map .int)))) ps) rfl rfl (by simp only [pE.eq_1, pE.eq_2, pE.eq_3, pE.eq_4, pE.eq_5, pE.eq_6, pE.eq_7, pE.eq_8, pE.eq_9, pE.eq_10, pE.eq_11, pE.eq_12, pE.eq_13, pE.eq_14, pE.eq_15, pE.eq_16, pE.eq_17, pE.eq_18, pE.eq_19, pE.eq_20, pE.eq_21, pE.eq_22, pE.eq_23, pE.eq_24, pE.eq_25, pE.eq_26, pS.eq_1, pS.eq_2, pS.eq_3, pS.eq_4, pS.eq_5, pS.eq_6, pS.eq_7, pS.eq_8, pS.eq_9, pS.eq_10, pS.eq_11, pS.eq_12, pS.eq_13, pS.eq_14, pS.eq_15, pS.eq_16, pS.eq_17, pS.eq_18, pS.eq_19, pS.eq_22, pS.eq_24, pNew.eq_1, pNew.eq_2, pNew.eq_3, pNew.eq_4, pNew.eq_5, pNew.eq_6, pNew.eq_7, pE_comp, pE_comp2, pE_dcomp, pS_for, isNew, pSs_cons, pSs_nil, q_nx, q_rt, q_bk, q_ct, q_xc, pEs, pAs, pKV, pEo, pC, pIt, pwalk, pTg, pTgs, cB, cBD, pwipe, PR.bind_ok, PR.bind_exc, PR.ofOpt_some, PR.noExc_ok, PR.thenS_ok, PR.thenS_exc, PC.val_v, PRS.noXc, r_nx, r_rt, r_xc, a_v, a_l, a_bl, T.lim, o_add, o_sub, o_mul, o_div, o_mod, o_addT, o_addLL, o_eq, o_ne, o_lt, o_le, o_gt, o_ge, o_isN, o_isnN, o_isB, o_isnB, o_isT, o_isnT, o_isI, o_isnI, o_isL, o_isnL, eqv_int, o_ixT, o_ixR, o_ixl, o_ixbl, o_slcT, o_slcR, o_slcl, o_revT, o_revR, o_lenT, o_lenR, o_lenl, o_lenbl, o_lenD, o_lend, o_abs, o_int, o_intB, o_tupT, o_tupR, o_tupl, o_lstT, o_lstR, o_min2, o_max2, o_srt, o_repr, t_b, t_i, t_t, t_r, t_l, t_n, y_t, y_r, y_l, y_bl, z_t, z_r, l_r, l_l, it_sq, it_rng, it_rngC, it_zip, PIt.items_enum, List.getElem?_cons_zero, List.getElem?_cons_succ, List.set_cons_zero, List.set_cons_succ, Option.map_some, Option.bind_some, if_true, and_self, true_and, and_true, reduceIte, Bool.not_true, Bool.not_false, Bool.false_eq_true, Tgs.len, List.length_cons, List.length_nil, Nat.zero_add, Nat.reduceAdd, decide_true, decide_false, e4]) ⟨_, _, _, _, _, _, _, _, _, rfl⟩ ?_ ?_)
  · rintro x0 xs ps ⟨x3, x4, x5, x6, x7, x8, x9, x10, x11, rfl⟩
    refine ⟨_, pTg_nm, ?_⟩
    dsimp only [List.set_cons_succ, List.set_cons_zero]
    -- the row
    refine w_st (w_asg rfl (by decide) (w_ix rfl (w_val rfl (t := rowsT) (by simp only [pE.eq_1, pE.eq_2, pE.eq_3, pE.eq_4, pE.eq_5, pE.eq_6, pE.eq_7, pE.eq_8, pE.eq_9, pE.eq_10, pE.eq_11, pE.eq_12, pE.eq_13, pE.eq_14, pE.eq_15, pE.eq_16, pE.eq_17, pE.eq_18, pE.eq_19, pE.eq_20, pE.eq_21, pE.eq_22, pE.eq_23, pE.eq_24, pE.eq_25, pE.eq_26, pS.eq_1, pS.eq_2, pS.eq_3, pS.eq_4, pS.eq_5, pS.eq_6, pS.eq_7, pS.eq_8, pS.eq_9, pS.eq_10, pS.eq_11, pS.eq_12, pS.eq_13, pS.eq_14, pS.eq_15, pS.eq_16, pS.eq_17, pS.eq_18, pS.eq_19, pS.eq_22, pS.eq_24, pNew.eq_1, pNew.eq_2, pNew.eq_3, pNew.eq_4, pNew.eq_5, pNew.eq_6, pNew.eq_7, pE_comp, pE_comp2, pE_dcomp, pS_for, isNew, pSs_cons, pSs_nil, q_nx, q_rt, q_bk, q_ct, q_xc, pEs, pAs, pKV, pEo, pC, pIt, pwalk, pTg, pTgs, cB, cBD, pwipe, PR.bind_ok, PR.bind_exc, PR.ofOpt_some, PR.noExc_ok, PR.thenS_ok, PR.thenS_exc, PC.val_v, PRS.noXc, r_nx, r_rt, r_xc, a_v, a_l, a_bl, T.lim, o_add, o_sub, o_mul, o_div, o_mod, o_addT, o_addLL, o_eq, o_ne, o_lt, o_le, o_gt, o_ge, o_isN, o_isnN, o_isB, o_isnB, o_isT, o_isnT, o_isI, o_isnI, o_isL, o_isnL, eqv_int, o_ixT, o_ixR, o_ixl, o_ixbl, o_slcT, o_slcR, o_slcl, o_revT, o_revR, o_lenT, o_lenR, o_lenl, o_lenbl, o_lenD, o_lend, o_abs, o_int, o_intB, o_tupT, o_tupR, o_tupl, o_lstT, o_lstR, o_min2, o_max2, o_srt, o_repr, t_b, t_i, t_t, t_r, t_l, t_n, y_t, y_r, y_l, y_bl, z_t, z_r, l_r, l_l, it_sq, it_rng, it_rngC, it_zip, PIt.items_enum, List.getElem?_cons_zero, List.getElem?_cons_succ, List.set_cons_zero, List.set_cons_succ, Option.map_some, Option.bind_some, if_true, and_self, true_and, and_true, reduceIte, Bool.not_true, Bool.not_false, Bool.false_eq_true, Tgs.len, List.length_cons, List.length_nil, Nat.zero_add, Nat.reduceAdd, decide_true, decide_false]) (w_take takeF (by omega) (by omega) fun i i0 i1 => ?_))))
    obtain ⟨k, rfl, hk⟩ := int_nat (m := 4) i0 (by simpa using i1)
    have hk' : k < rws.length := hk
    have hx : pix (.v rowsT) (.v (.int (k : Int))) = some (erow rws[k]) := by
      unfold rowsT
      rw [o_ixR, List.length_map, ixN_nat hk', Option.bind_some, List.getElem?_map, List.getElem?_eq_getElem hk']
      rfl
    refine ⟨_, hx, ?_⟩
    have hg := good_all rws[k] (List.getElem_mem hk')
    generalize rws[k] = rw at hg
    dsimp only [List.set_cons_succ, List.set_cons_zero]
    -- three terms
    refine w_st (w_asgT rfl rfl (w_comp (J := .rng 0 3) (fun _ y => ∃ t : Tm, y = t.enc ∧ Few 3 2 t) rfl rfl (by simp only [pE.eq_1, pE.eq_2, pE.eq_3, pE.eq_4, pE.eq_5, pE.eq_6, pE.eq_7, pE.eq_8, pE.eq_9, pE.eq_10, pE.eq_11, pE.eq_12, pE.eq_13, pE.eq_14, pE.eq_15, pE.eq_16, pE.eq_17, pE.eq_18, pE.eq_19, pE.eq_20, pE.eq_21, pE.eq_22, pE.eq_23, pE.eq_24, pE.eq_25, pE.eq_26, pS.eq_1, pS.eq_2, pS.eq_3, pS.eq_4, pS.eq_5, pS.eq_6, pS.eq_7, pS.eq_8, pS.eq_9, pS.eq_10, pS.eq_11, pS.eq_12, pS.eq_13, pS.eq_14, pS.eq_15, pS.eq_16, pS.eq_17, pS.eq_18, pS.eq_19, pS.eq_22, pS.eq_24, pNew.eq_1, pNew.eq_2, pNew.eq_3, pNew.eq_4, pNew.eq_5, pNew.eq_6, pNew.eq_7, pE_comp, pE_comp2, pE_dcomp, pS_for, isNew, pSs_cons, pSs_nil, q_nx, q_rt, q_bk, q_ct, q_xc, pEs, pAs, pKV, pEo, pC, pIt, pwalk, pTg, pTgs, cB, cBD, pwipe, PR.bind_ok, PR.bind_exc, PR.ofOpt_some, PR.noExc_ok, PR.thenS_ok, PR.thenS_exc, PC.val_v, PRS.noXc, r_nx, r_rt, r_xc, a_v, a_l, a_bl, T.lim, o_add, o_sub, o_mul, o_div, o_mod, o_addT, o_addLL, o_eq, o_ne, o_lt, o_le, o_gt, o_ge, o_isN, o_isnN, o_isB, o_isnB, o_isT, o_isnT, o_isI, o_isnI, o_isL, o_isnL, eqv_int, o_ixT, o_ixR, o_ixl, o_ixbl, o_slcT, o_slcR, o_slcl, o_revT, o_revR, o_lenT, o_lenR, o_lenl, o_lenbl, o_lenD, o_lend, o_abs, o_int, o_intB, o_tupT, o_tupR, o_tupl, o_lstT, o_lstR, o_min2, o_max2, o_srt, o_repr, t_b, t_i, t_t, t_r, t_l, t_n, y_t, y_r, y_l, y_bl, z_t, z_r, l_r, l_l, it_sq, it_rng, it_rngC, it_zip, PIt.items_enum, List.getElem?_cons_zero, List.getElem?_cons_succ, List.set_cons_zero, List.set_cons_succ, Option.map_some, Option.bind_some, if_true, and_self, true_and, and_true, reduceIte, Bool.not_true, Bool.not_false, Bool.false_eq_true, Tgs.len, List.length_cons, List.length_nil, Nat.zero_add, Nat.reduceAdd, decide_true, decide_false, e3]) s3 rfl rfl ?_ ?_))
    · intro y hy
      exact ⟨_, pTg_nm, w_drawn (e := 3) (many := 2) rfl rfl (by omega) (by omega) fun t ht => ⟨t, rfl, ht⟩⟩
    intro ys hys
    obtain ⟨l, rfl, fl, hl⟩ := hys.pick enc (Few 3 2) fun a b _ h => h
    have fl : l.length = 3 := by rw [fl, PIt.items_len]; rfl
    match l, fl with
    | [s, t, w], _ =>
      have hs := hl s (by simp)
      have ht := hl t (by simp)
      have hw := hl w (by simp)
      refine ⟨[some (.v (.rol (ns.map .int))), none, some (.v rowsT), some (.v x0), some (.v (erow rw)), x5, some (.v s.enc), some (.v t.enc), some (.v w.enc), x9, x10, x11], ?_, ?_⟩
      · simp only [pE.eq_1, pE.eq_2, pE.eq_3, pE.eq_4, pE.eq_5, pE.eq_6, pE.eq_7, pE.eq_8, pE.eq_9, pE.eq_10, pE.eq_11, pE.eq_12, pE.eq_13, pE.eq_14, pE.eq_15, pE.eq_16, pE.eq_17, pE.eq_18, pE.eq_19, pE.eq_20, pE.eq_21, pE.eq_22, pE.eq_23, pE.eq_24, pE.eq_25, pE.eq_26, pS.eq_1, pS.eq_2, pS.eq_3, pS.eq_4, pS.eq_5, pS.eq_6, pS.eq_7, pS.eq_8, pS.eq_9, pS.eq_10, pS.eq_11, pS.eq_12, pS.eq_13, pS.eq_14, pS.eq_15, pS.eq_16, pS.eq_17, pS.eq_18, pS.eq_19, pS.eq_22, pS.eq_24, pNew.eq_1, pNew.eq_2, pNew.eq_3, pNew.eq_4, pNew.eq_5, pNew.eq_6, pNew.eq_7, pE_comp, pE_comp2, pE_dcomp, pS_for, isNew, pSs_cons, pSs_nil, q_nx, q_rt, q_bk, q_ct, q_xc, pEs, pAs, pKV, pEo, pC, pIt, pwalk, pTg, pTgs, cB, cBD, pwipe, PR.bind_ok, PR.bind_exc, PR.ofOpt_some, PR.noExc_ok, PR.thenS_ok, PR.thenS_exc, PC.val_v, PRS.noXc, r_nx, r_rt, r_xc, a_v, a_l, a_bl, T.lim, o_add, o_sub, o_mul, o_div, o_mod, o_addT, o_addLL, o_eq, o_ne, o_lt, o_le, o_gt, o_ge, o_isN, o_isnN, o_isB, o_isnB, o_isT, o_isnT, o_isI, o_isnI, o_isL, o_isnL, eqv_int, o_ixT, o_ixR, o_ixl, o_ixbl, o_slcT, o_slcR, o_slcl, o_revT, o_revR, o_lenT, o_lenR, o_lenl, o_lenbl, o_lenD, o_lend, o_abs, o_int, o_intB, o_tupT, o_tupR, o_tupl, o_lstT, o_lstR, o_min2, o_max2, o_srt, o_repr, t_b, t_i, t_t, t_r, t_l, t_n, y_t, y_r, y_l, y_bl, z_t, z_r, l_r, l_l, it_sq, it_rng, it_rngC, it_zip, PIt.items_enum, List.getElem?_cons_zero, List.getElem?_cons_succ, List.set_cons_zero, List.set_cons_succ, Option.map_some, Option.bind_some, if_true, and_self, true_and, and_true, reduceIte, Bool.not_true, Bool.not_false, Bool.false_eq_true, Tgs.len, List.length_cons, List.length_nil, Nat.zero_add, Nat.reduceAdd, decide_true, decide_false, List.map_cons, List.map_nil]
      have p1 := pg (M := 229) hg (by omega) (s := s) (t := t) (by have := hs.1; omega) (by have := ht.1; omega)
      have p2 := lg (M := 229) hg (by omega) (s := s) (t := t) (by have := hs.1; omega) (by have := ht.1; omega)
      have p3 := pg (M := 229) hg (by omega) (s := s) (t := s) (by have := hs.1; omega) (by have := hs.1; omega)
      have p4 := pg (M := 229) hg (by omega) (s := t) (t := w) (by have := ht.1; omega) (by have := hw.1; omega)
      have p5 := pg (M := 229) hg (by omega) (s := s) (t := w) (by have := hs.1; omega) (by have := hw.1; omega)
      have p6 := pg (M := 229) hg (by omega) (s := t) (t := s) (by have := ht.1; omega) (by have := hs.1; omega)
      rw [irrefl] at p3
      refine w_st (w_ifF rfl ?_ (w_end ?_))
      · simp only [pE.eq_1, pE.eq_2, pE.eq_3, pE.eq_4, pE.eq_5, pE.eq_6, pE.eq_7, pE.eq_8, pE.eq_9, pE.eq_10, pE.eq_11, pE.eq_12, pE.eq_13, pE.eq_14, pE.eq_15, pE.eq_16, pE.eq_17, pE.eq_18, pE.eq_19, pE.eq_20, pE.eq_21, pE.eq_22, pE.eq_23, pE.eq_24, pE.eq_25, pE.eq_26, pS.eq_1, pS.eq_2, pS.eq_3, pS.eq_4, pS.eq_5, pS.eq_6, pS.eq_7, pS.eq_8, pS.eq_9, pS.eq_10, pS.eq_11, pS.eq_12, pS.eq_13, pS.eq_14, pS.eq_15, pS.eq_16, pS.eq_17, pS.eq_18, pS.eq_19, pS.eq_22, pS.eq_24, pNew.eq_1, pNew.eq_2, pNew.eq_3, pNew.eq_4, pNew.eq_5, pNew.eq_6, pNew.eq_7, pE_comp, pE_comp2, pE_dcomp, pS_for, isNew, pSs_cons, pSs_nil, q_nx, q_rt, q_bk, q_ct, q_xc, pEs, pAs, pKV, pEo, pC, pIt, pwalk, pTg, pTgs, cB, cBD, pwipe, PR.bind_ok, PR.bind_exc, PR.ofOpt_some, PR.noExc_ok, PR.thenS_ok, PR.thenS_exc, PC.val_v, PRS.noXc, r_nx, r_rt, r_xc, a_v, a_l, a_bl, T.lim, o_add, o_sub, o_mul, o_div, o_mod, o_addT, o_addLL, o_eq, o_ne, o_lt, o_le, o_gt, o_ge, o_isN, o_isnN, o_isB, o_isnB, o_isT, o_isnT, o_isI, o_isnI, o_isL, o_isnL, eqv_int, o_ixT, o_ixR, o_ixl, o_ixbl, o_slcT, o_slcR, o_slcl, o_revT, o_revR, o_lenT, o_lenR, o_lenl, o_lenbl, o_lenD, o_lend, o_abs, o_int, o_intB, o_tupT, o_tupR, o_tupl, o_lstT, o_lstR, o_min2, o_max2, o_srt, o_repr, t_b, t_i, t_t, t_r, t_l, t_n, y_t, y_r, y_l, y_bl, z_t, z_r, l_r, l_l, it_sq, it_rng, it_rngC, it_zip, PIt.items_enum, List.getElem?_cons_zero, List.getElem?_cons_succ, List.set_cons_zero, List.set_cons_succ, Option.map_some, Option.bind_some, if_true, and_self, true_and, and_true, reduceIte, Bool.not_true, Bool.not_false, Bool.false_eq_true, Tgs.len, List.length_cons, List.length_nil, Nat.zero_add, Nat.reduceAdd, decide_true, decide_false, p1, p2, p3, bne_s, BEq.rfl]
      refine w_st (w_ifF rfl ?_ (w_end ?_))
      · simp only [pE.eq_1, pE.eq_2, pE.eq_3, pE.eq_4, pE.eq_5, pE.eq_6, pE.eq_7, pE.eq_8, pE.eq_9, pE.eq_10, pE.eq_11, pE.eq_12, pE.eq_13, pE.eq_14, pE.eq_15, pE.eq_16, pE.eq_17, pE.eq_18, pE.eq_19, pE.eq_20, pE.eq_21, pE.eq_22, pE.eq_23, pE.eq_24, pE.eq_25, pE.eq_26, pS.eq_1, pS.eq_2, pS.eq_3, pS.eq_4, pS.eq_5, pS.eq_6, pS.eq_7, pS.eq_8, pS.eq_9, pS.eq_10, pS.eq_11, pS.eq_12, pS.eq_13, pS.eq_14, pS.eq_15, pS.eq_16, pS.eq_17, pS.eq_18, pS.eq_19, pS.eq_22, pS.eq_24, pNew.eq_1, pNew.eq_2, pNew.eq_3, pNew.eq_4, pNew.eq_5, pNew.eq_6, pNew.eq_7, pE_comp, pE_comp2, pE_dcomp, pS_for, isNew, pSs_cons, pSs_nil, q_nx, q_rt, q_bk, q_ct, q_xc, pEs, pAs, pKV, pEo, pC, pIt, pwalk, pTg, pTgs, cB, cBD, pwipe, PR.bind_ok, PR.bind_exc, PR.ofOpt_some, PR.noExc_ok, PR.thenS_ok, PR.thenS_exc, PC.val_v, PRS.noXc, r_nx, r_rt, r_xc, a_v, a_l, a_bl, T.lim, o_add, o_sub, o_mul, o_div, o_mod, o_addT, o_addLL, o_eq, o_ne, o_lt, o_le, o_gt, o_ge, o_isN, o_isnN, o_isB, o_isnB, o_isT, o_isnT, o_isI, o_isnI, o_isL, o_isnL, eqv_int, o_ixT, o_ixR, o_ixl, o_ixbl, o_slcT, o_slcR, o_slcl, o_revT, o_revR, o_lenT, o_lenR, o_lenl, o_lenbl, o_lenD, o_lend, o_abs, o_int, o_intB, o_tupT, o_tupR, o_tupl, o_lstT, o_lstR, o_min2, o_max2, o_srt, o_repr, t_b, t_i, t_t, t_r, t_l, t_n, y_t, y_r, y_l, y_bl, z_t, z_r, l_r, l_l, it_sq, it_rng, it_rngC, it_zip, PIt.items_enum, List.getElem?_cons_zero, List.getElem?_cons_succ, List.set_cons_zero, List.set_cons_succ, Option.map_some, Option.bind_some, if_true, and_self, true_and, and_true, reduceIte, Bool.not_true, Bool.not_false, Bool.false_eq_true, Tgs.len, List.length_cons, List.length_nil, Nat.zero_add, Nat.reduceAdd, decide_true, decide_false, p1, p4, p5]
        cases h1 : gt (posOf rw) s t with
        | false => simp only [pE.eq_1, pE.eq_2, pE.eq_3, pE.eq_4, pE.eq_5, pE.eq_6, pE.eq_7, pE.eq_8, pE.eq_9, pE.eq_10, pE.eq_11, pE.eq_12, pE.eq_13, pE.eq_14, pE.eq_15, pE.eq_16, pE.eq_17, pE.eq_18, pE.eq_19, pE.eq_20, pE.eq_21, pE.eq_22, pE.eq_23, pE.eq_24, pE.eq_25, pE.eq_26, pS.eq_1, pS.eq_2, pS.eq_3, pS.eq_4, pS.eq_5, pS.eq_6, pS.eq_7, pS.eq_8, pS.eq_9, pS.eq_10, pS.eq_11, pS.eq_12, pS.eq_13, pS.eq_14, pS.eq_15, pS.eq_16, pS.eq_17, pS.eq_18, pS.eq_19, pS.eq_22, pS.eq_24, pNew.eq_1, pNew.eq_2, pNew.eq_3, pNew.eq_4, pNew.eq_5, pNew.eq_6, pNew.eq_7, pE_comp, pE_comp2, pE_dcomp, pS_for, isNew, pSs_cons, pSs_nil, q_nx, q_rt, q_bk, q_ct, q_xc, pEs, pAs, pKV, pEo, pC, pIt, pwalk, pTg, pTgs, cB, cBD, pwipe, PR.bind_ok, PR.bind_exc, PR.ofOpt_some, PR.noExc_ok, PR.thenS_ok, PR.thenS_exc, PC.val_v, PRS.noXc, r_nx, r_rt, r_xc, a_v, a_l, a_bl, T.lim, o_add, o_sub, o_mul, o_div, o_mod, o_addT, o_addLL, o_eq, o_ne, o_lt, o_le, o_gt, o_ge, o_isN, o_isnN, o_isB, o_isnB, o_isT, o_isnT, o_isI, o_isnI, o_isL, o_isnL, eqv_int, o_ixT, o_ixR, o_ixl, o_ixbl, o_slcT, o_slcR, o_slcl, o_revT, o_revR, o_lenT, o_lenR, o_lenl, o_lenbl, o_lenD, o_lend, o_abs, o_int, o_intB, o_tupT, o_tupR, o_tupl, o_lstT, o_lstR, o_min2, o_max2, o_srt, o_repr, t_b, t_i, t_t, t_r, t_l, t_n, y_t, y_r, y_l, y_bl, z_t, z_r, l_r, l_l, it_sq, it_rng, it_rngC, it_zip, PIt.items_enum, List.getElem?_cons_zero, List.getElem?_cons_succ, List.set_cons_zero, List.set_cons_succ, Option.map_some, Option.bind_some, if_true, and_self, true_and, and_true, reduceIte, Bool.not_true, Bool.not_false, Bool.false_eq_true, Tgs.len, List.length_cons, List.length_nil, Nat.zero_add, Nat.reduceAdd, decide_true, decide_false]
        | true =>
          cases h2 : gt (posOf rw) t w with
          | false => simp only [pE.eq_1, pE.eq_2, pE.eq_3, pE.eq_4, pE.eq_5, pE.eq_6, pE.eq_7, pE.eq_8, pE.eq_9, pE.eq_10, pE.eq_11, pE.eq_12, pE.eq_13, pE.eq_14, pE.eq_15, pE.eq_16, pE.eq_17, pE.eq_18, pE.eq_19, pE.eq_20, pE.eq_21, pE.eq_22, pE.eq_23, pE.eq_24, pE.eq_25, pE.eq_26, pS.eq_1, pS.eq_2, pS.eq_3, pS.eq_4, pS.eq_5, pS.eq_6, pS.eq_7, pS.eq_8, pS.eq_9, pS.eq_10, pS.eq_11, pS.eq_12, pS.eq_13, pS.eq_14, pS.eq_15, pS.eq_16, pS.eq_17, pS.eq_18, pS.eq_19, pS.eq_22, pS.eq_24, pNew.eq_1, pNew.eq_2, pNew.eq_3, pNew.eq_4, pNew.eq_5, pNew.eq_6, pNew.eq_7, pE_comp, pE_comp2, pE_dcomp, pS_for, isNew, pSs_cons, pSs_nil, q_nx, q_rt, q_bk, q_ct, q_xc, pEs, pAs, pKV, pEo, pC, pIt, pwalk, pTg, pTgs, cB, cBD, pwipe, PR.bind_ok, PR.bind_exc, PR.ofOpt_some, PR.noExc_ok, PR.thenS_ok, PR.thenS_exc, PC.val_v, PRS.noXc, r_nx, r_rt, r_xc, a_v, a_l, a_bl, T.lim, o_add, o_sub, o_mul, o_div, o_mod, o_addT, o_addLL, o_eq, o_ne, o_lt, o_le, o_gt, o_ge, o_isN, o_isnN, o_isB, o_isnB, o_isT, o_isnT, o_isI, o_isnI, o_isL, o_isnL, eqv_int, o_ixT, o_ixR, o_ixl, o_ixbl, o_slcT, o_slcR, o_slcl, o_revT, o_revR, o_lenT, o_lenR, o_lenl, o_lenbl, o_lenD, o_lend, o_abs, o_int, o_intB, o_tupT, o_tupR, o_tupl, o_lstT, o_lstR, o_min2, o_max2, o_srt, o_repr, t_b, t_i, t_t, t_r, t_l, t_n, y_t, y_r, y_l, y_bl, z_t, z_r, l_r, l_l, it_sq, it_rng, it_rngC, it_zip, PIt.items_enum, List.getElem?_cons_zero, List.getElem?_cons_succ, List.set_cons_zero, List.set_cons_succ, Option.map_some, Option.bind_some, if_true, and_self, true_and, and_true, reduceIte, Bool.not_true, Bool.not_false, Bool.false_eq_true, Tgs.len, List.length_cons, List.length_nil, Nat.zero_add, Nat.reduceAdd, decide_true, decide_false]
          | true => simp only [pE.eq_1, pE.eq_2, pE.eq_3, pE.eq_4, pE.eq_5, pE.eq_6, pE.eq_7, pE.eq_8, pE.eq_9, pE.eq_10, pE.eq_11, pE.eq_12, pE.eq_13, pE.eq_14, pE.eq_15, pE.eq_16, pE.eq_17, pE.eq_18, pE.eq_19, pE.eq_20, pE.eq_21, pE.eq_22, pE.eq_23, pE.eq_24, pE.eq_25, pE.eq_26, pS.eq_1, pS.eq_2, pS.eq_3, pS.eq_4, pS.eq_5, pS.eq_6, pS.eq_7, pS.eq_8, pS.eq_9, pS.eq_10, pS.eq_11, pS.eq_12, pS.eq_13, pS.eq_14, pS.eq_15, pS.eq_16, pS.eq_17, pS.eq_18, pS.eq_19, pS.eq_22, pS.eq_24, pNew.eq_1, pNew.eq_2, pNew.eq_3, pNew.eq_4, pNew.eq_5, pNew.eq_6, pNew.eq_7, pE_comp, pE_comp2, pE_dcomp, pS_for, isNew, pSs_cons, pSs_nil, q_nx, q_rt, q_bk, q_ct, q_xc, pEs, pAs, pKV, pEo, pC, pIt, pwalk, pTg, pTgs, cB, cBD, pwipe, PR.bind_ok, PR.bind_exc, PR.ofOpt_some, PR.noExc_ok, PR.thenS_ok, PR.thenS_exc, PC.val_v, PRS.noXc, r_nx, r_rt, r_xc, a_v, a_l, a_bl, T.lim, o_add, o_sub, o_mul, o_div, o_mod, o_addT, o_addLL, o_eq, o_ne, o_lt, o_le, o_gt, o_ge, o_isN, o_isnN, o_isB, o_isnB, o_isT, o_isnT, o_isI, o_isnI, o_isL, o_isnL, eqv_int, o_ixT, o_ixR, o_ixl, o_ixbl, o_slcT, o_slcR, o_slcl, o_revT, o_revR, o_lenT, o_lenR, o_lenl, o_lenbl, o_lenD, o_lend, o_abs, o_int, o_intB, o_tupT, o_tupR, o_tupl, o_lstT, o_lstR, o_min2, o_max2, o_srt, o_repr, t_b, t_i, t_t, t_r, t_l, t_n, y_t, y_r, y_l, y_bl, z_t, z_r, l_r, l_l, it_sq, it_rng, it_rngC, it_zip, PIt.items_enum, List.getElem?_cons_zero, List.getElem?_cons_succ, List.set_cons_zero, List.set_cons_succ, Option.map_some, Option.bind_some, if_true, and_self, true_and, and_true, reduceIte, Bool.not_true, Bool.not_false, Bool.false_eq_true, Tgs.len, List.length_cons, List.length_nil, Nat.zero_add, Nat.reduceAdd, decide_true, decide_false, trans h1 h2]
      -- the values
      refine w_st (w_asg rfl (by decide) (w_dct rfl (w_kv (w_int (w_drawn (e := 2) (many := 1) rfl rfl (by omega) (by omega) fun w0 h0 => w_kv (w_int (w_drawn (e := 2) (many := 0) rfl rfl (by omega) (by omega) fun w1 h1 => w_kv0 ?_)))))))
      refine ⟨rfl, rfl, by simp, ?_⟩
      have hvals : T.rod ([(T.int 0, w0.enc), (T.int 1, w1.enc)].foldl (fun acc p => dPut p.1 p.2 acc) []) = vals w0 w1 := rfl
      rw [hvals]
      dsimp only [List.set_cons_succ, List.set_cons_zero]
      have q1 := subst_s (w0 := w0) (w1 := w1) s 229 (by have := hs.1; omega)
      have q2 := subst_s (w0 := w0) (w1 := w1) t 229 (by have := ht.1; omega)
      have a1 := sub_ht (k := 2) h0.1 h1.1 s
      have a2 := sub_ht (k := 2) h0.1 h1.1 t
      have p7 := pg (M := 229) hg (by omega) (s := s.sub (sg w0 w1)) (t := t.sub (sg w0 w1)) (by have := hs.1; omega) (by have := ht.1; omega)
      have p8 := pg (M := 229) hg (by omega) (s := f w s) (t := f w t) (by have := hs.1; have := hw.1; simp only [Tm.ht]; omega) (by have := ht.1; have := hw.1; simp only [Tm.ht]; omega)
      have p9 := pg (M := 229) hg (by omega) (s := u false s) (t := u false t) (by have := hs.1; simp only [Tm.ht]; omega) (by have := ht.1; simp only [Tm.ht]; omega)
      have p10 := pg (M := 229) hg (by omega) (s := f s w) (t := f t w) (by have := hs.1; have := hw.1; simp only [Tm.ht]; omega) (by have := ht.1; have := hw.1; simp only [Tm.ht]; omega)
      refine w_st (w_if (k := gt (posOf rw) s t) rfl ?_ ?_)
      · simp only [pE.eq_1, pE.eq_2, pE.eq_3, pE.eq_4, pE.eq_5, pE.eq_6, pE.eq_7, pE.eq_8, pE.eq_9, pE.eq_10, pE.eq_11, pE.eq_12, pE.eq_13, pE.eq_14, pE.eq_15, pE.eq_16, pE.eq_17, pE.eq_18, pE.eq_19, pE.eq_20, pE.eq_21, pE.eq_22, pE.eq_23, pE.eq_24, pE.eq_25, pE.eq_26, pS.eq_1, pS.eq_2, pS.eq_3, pS.eq_4, pS.eq_5, pS.eq_6, pS.eq_7, pS.eq_8, pS.eq_9, pS.eq_10, pS.eq_11, pS.eq_12, pS.eq_13, pS.eq_14, pS.eq_15, pS.eq_16, pS.eq_17, pS.eq_18, pS.eq_19, pS.eq_22, pS.eq_24, pNew.eq_1, pNew.eq_2, pNew.eq_3, pNew.eq_4, pNew.eq_5, pNew.eq_6, pNew.eq_7, pE_comp, pE_comp2, pE_dcomp, pS_for, isNew, pSs_cons, pSs_nil, q_nx, q_rt, q_bk, q_ct, q_xc, pEs, pAs, pKV, pEo, pC, pIt, pwalk, pTg, pTgs, cB, cBD, pwipe, PR.bind_ok, PR.bind_exc, PR.ofOpt_some, PR.noExc_ok, PR.thenS_ok, PR.thenS_exc, PC.val_v, PRS.noXc, r_nx, r_rt, r_xc, a_v, a_l, a_bl, T.lim, o_add, o_sub, o_mul, o_div, o_mod, o_addT, o_addLL, o_eq, o_ne, o_lt, o_le, o_gt, o_ge, o_isN, o_isnN, o_isB, o_isnB, o_isT, o_isnT, o_isI, o_isnI, o_isL, o_isnL, eqv_int, o_ixT, o_ixR, o_ixl, o_ixbl, o_slcT, o_slcR, o_slcl, o_revT, o_revR, o_lenT, o_lenR, o_lenl, o_lenbl, o_lenD, o_lend, o_abs, o_int, o_intB, o_tupT, o_tupR, o_tupl, o_lstT, o_lstR, o_min2, o_max2, o_srt, o_repr, t_b, t_i, t_t, t_r, t_l, t_n, y_t, y_r, y_l, y_bl, z_t, z_r, l_r, l_l, it_sq, it_rng, it_rngC, it_zip, PIt.items_enum, List.getElem?_cons_zero, List.getElem?_cons_succ, List.set_cons_zero, List.set_cons_succ, Option.map_some, Option.bind_some, if_true, and_self, true_and, and_true, reduceIte, Bool.not_true, Bool.not_false, Bool.false_eq_true, Tgs.len, List.length_cons, List.length_nil, Nat.zero_add, Nat.reduceAdd, decide_true, decide_false, p1]
      have tail : ∀ P : PRS → Prop, (∀ ps, Any (some (.v (.rol (ns.map .int)))) ps → P (.nx ps)) → wSs (prun fns G 229) G (dF 4) 1 (.cons (.par 9 10 (.call 6 (.cons (.call 5 (.cons (.var 1) (.cons (.cst (.int 3)) (.cons (.cst (.int 0)) .nil)))) .nil)) (.call 6 (.cons (.call 5 (.cons (.var 1) (.cons (.cst (.int 3)) (.cons (.cst (.int 0)) .nil)))) .nil)))
  (.cons (.ifS (.and (.cmp .NotEq (.var 9) (.var 10)) (.cmp .Eq (.call 2 (.cons (.var 4) (.cons (.var 9) (.cons (.var 10) .nil)))) (.call 2 (.cons (.var 4) (.cons (.var 10) (.cons (.var 9) .nil)))))) (.cons (.ret (.cst (.bl false)))
  .nil) .nil)
  .nil)) [some (.v (.rol (ns.map .int))), none, some (.v rowsT), some (.v x0), some (.v (erow rw)), some (.v (vals w0 w1)), some (.v s.enc), some (.v t.enc), some (.v w.enc), x9, x10, x11] P := by
        intro P hP
        refine w_st (w_par rfl (by decide) (by decide) (w_drawn (e := 3) (many := 0) rfl rfl (by omega) (by omega) fun a ha => w_drawn (e := 3) (many := 0) rfl rfl (by omega) (by omega) fun b hb => ?_))
        dsimp only [List.set_cons_succ, List.set_cons_zero]
        have r1 := pg (M := 229) hg (by omega) (s := a) (t := b) (by have := ha.1; omega) (by have := hb.1; omega)
        have r2 := pg (M := 229) hg (by omega) (s := b) (t := a) (by have := hb.1; omega) (by have := ha.1; omega)
        have re := peq_t (s := a) (t := b) (by have := ha.1; omega)
        have rb : ∀ x y : Bool, peq (.v (.bl x)) (.v (.bl y)) = some (decide (x = y)) := fun x y => enc_bl.peq (by omega) x y
        refine w_st (w_ifF rfl ?_ (w_end (w_end (hP _ ⟨_, _, _, _, _, _, _, _, _, rfl⟩))))
        simp only [pE.eq_1, pE.eq_2, pE.eq_3, pE.eq_4, pE.eq_5, pE.eq_6, pE.eq_7, pE.eq_8, pE.eq_9, pE.eq_10, pE.eq_11, pE.eq_12, pE.eq_13, pE.eq_14, pE.eq_15, pE.eq_16, pE.eq_17, pE.eq_18, pE.eq_19, pE.eq_20, pE.eq_21, pE.eq_22, pE.eq_23, pE.eq_24, pE.eq_25, pE.eq_26, pS.eq_1, pS.eq_2, pS.eq_3, pS.eq_4, pS.eq_5, pS.eq_6, pS.eq_7, pS.eq_8, pS.eq_9, pS.eq_10, pS.eq_11, pS.eq_12, pS.eq_13, pS.eq_14, pS.eq_15, pS.eq_16, pS.eq_17, pS.eq_18, pS.eq_19, pS.eq_22, pS.eq_24, pNew.eq_1, pNew.eq_2, pNew.eq_3, pNew.eq_4, pNew.eq_5, pNew.eq_6, pNew.eq_7, pE_comp, pE_comp2, pE_dcomp, pS_for, isNew, pSs_cons, pSs_nil, q_nx, q_rt, q_bk, q_ct, q_xc, pEs, pAs, pKV, pEo, pC, pIt, pwalk, pTg, pTgs, cB, cBD, pwipe, PR.bind_ok, PR.bind_exc, PR.ofOpt_some, PR.noExc_ok, PR.thenS_ok, PR.thenS_exc, PC.val_v, PRS.noXc, r_nx, r_rt, r_xc, a_v, a_l, a_bl, T.lim, o_add, o_sub, o_mul, o_div, o_mod, o_addT, o_addLL, o_eq, o_ne, o_lt, o_le, o_gt, o_ge, o_isN, o_isnN, o_isB, o_isnB, o_isT, o_isnT, o_isI, o_isnI, o_isL, o_isnL, eqv_int, o_ixT, o_ixR, o_ixl, o_ixbl, o_slcT, o_slcR, o_slcl, o_revT, o_revR, o_lenT, o_lenR, o_lenl, o_lenbl, o_lenD, o_lend, o_abs, o_int, o_intB, o_tupT, o_tupR, o_tupl, o_lstT, o_lstR, o_min2, o_max2, o_srt, o_repr, t_b, t_i, t_t, t_r, t_l, t_n, y_t, y_r, y_l, y_bl, z_t, z_r, l_r, l_l, it_sq, it_rng, it_rngC, it_zip, PIt.items_enum, List.getElem?_cons_zero, List.getElem?_cons_succ, List.set_cons_zero, List.set_cons_succ, Option.map_some, Option.bind_some, if_true, and_self, true_and, and_true, reduceIte, Bool.not_true, Bool.not_false, Bool.false_eq_true, Tgs.len, List.length_cons, List.length_nil, Nat.zero_add, Nat.reduceAdd, decide_true, decide_false, re, r1, r2, rb]
        by_cases hab : a = b
        · simp only [pE.eq_1, pE.eq_2, pE.eq_3, pE.eq_4, pE.eq_5, pE.eq_6, pE.eq_7, pE.eq_8, pE.eq_9, pE.eq_10, pE.eq_11, pE.eq_12, pE.eq_13, pE.eq_14, pE.eq_15, pE.eq_16, pE.eq_17, pE.eq_18, pE.eq_19, pE.eq_20, pE.eq_21, pE.eq_22, pE.eq_23, pE.eq_24, pE.eq_25, pE.eq_26, pS.eq_1, pS.eq_2, pS.eq_3, pS.eq_4, pS.eq_5, pS.eq_6, pS.eq_7, pS.eq_8, pS.eq_9, pS.eq_10, pS.eq_11, pS.eq_12, pS.eq_13, pS.eq_14, pS.eq_15, pS.eq_16, pS.eq_17, pS.eq_18, pS.eq_19, pS.eq_22, pS.eq_24, pNew.eq_1, pNew.eq_2, pNew.eq_3, pNew.eq_4, pNew.eq_5, pNew.eq_6, pNew.eq_7, pE_comp, pE_comp2, pE_dcomp, pS_for, isNew, pSs_cons, pSs_nil, q_nx, q_rt, q_bk, q_ct, q_xc, pEs, pAs, pKV, pEo, pC, pIt, pwalk, pTg, pTgs, cB, cBD, pwipe, PR.bind_ok, PR.bind_exc, PR.ofOpt_some, PR.noExc_ok, PR.thenS_ok, PR.thenS_exc, PC.val_v, PRS.noXc, r_nx, r_rt, r_xc, a_v, a_l, a_bl, T.lim, o_add, o_sub, o_mul, o_div, o_mod, o_addT, o_addLL, o_eq, o_ne, o_lt, o_le, o_gt, o_ge, o_isN, o_isnN, o_isB, o_isnB, o_isT, o_isnT, o_isI, o_isnI, o_isL, o_isnL, eqv_int, o_ixT, o_ixR, o_ixl, o_ixbl, o_slcT, o_slcR, o_slcl, o_revT, o_revR, o_lenT, o_lenR, o_lenl, o_lenbl, o_lenD, o_lend, o_abs, o_int, o_intB, o_tupT, o_tupR, o_tupl, o_lstT, o_lstR, o_min2, o_max2, o_srt, o_repr, t_b, t_i, t_t, t_r, t_l, t_n, y_t, y_r, y_l, y_bl, z_t, z_r, l_r, l_l, it_sq, it_rng, it_rngC, it_zip, PIt.items_enum, List.getElem?_cons_zero, List.getElem?_cons_succ, List.set_cons_zero, List.set_cons_succ, Option.map_some, Option.bind_some, if_true, and_self, true_and, and_true, reduceIte, Bool.not_true, Bool.not_false, Bool.false_eq_true, Tgs.len, List.length_cons, List.length_nil, Nat.zero_add, Nat.reduceAdd, decide_true, decide_false, decide_eq_true hab]
        · simp only [pE.eq_1, pE.eq_2, pE.eq_3, pE.eq_4, pE.eq_5, pE.eq_6, pE.eq_7, pE.eq_8, pE.eq_9, pE.eq_10, pE.eq_11, pE.eq_12, pE.eq_13, pE.eq_14, pE.eq_15, pE.eq_16, pE.eq_17, pE.eq_18, pE.eq_19, pE.eq_20, pE.eq_21, pE.eq_22, pE.eq_23, pE.eq_24, pE.eq_25, pE.eq_26, pS.eq_1, pS.eq_2, pS.eq_3, pS.eq_4, pS.eq_5, pS.eq_6, pS.eq_7, pS.eq_8, pS.eq_9, pS.eq_10, pS.eq_11, pS.eq_12, pS.eq_13, pS.eq_14, pS.eq_15, pS.eq_16, pS.eq_17, pS.eq_18, pS.eq_19, pS.eq_22, pS.eq_24, pNew.eq_1, pNew.eq_2, pNew.eq_3, pNew.eq_4, pNew.eq_5, pNew.eq_6, pNew.eq_7, pE_comp, pE_comp2, pE_dcomp, pS_for, isNew, pSs_cons, pSs_nil, q_nx, q_rt, q_bk, q_ct, q_xc, pEs, pAs, pKV, pEo, pC, pIt, pwalk, pTg, pTgs, cB, cBD, pwipe, PR.bind_ok, PR.bind_exc, PR.ofOpt_some, PR.noExc_ok, PR.thenS_ok, PR.thenS_exc, PC.val_v, PRS.noXc, r_nx, r_rt, r_xc, a_v, a_l, a_bl, T.lim, o_add, o_sub, o_mul, o_div, o_mod, o_addT, o_addLL, o_eq, o_ne, o_lt, o_le, o_gt, o_ge, o_isN, o_isnN, o_isB, o_isnB, o_isT, o_isnT, o_isI, o_isnI, o_isL, o_isnL, eqv_int, o_ixT, o_ixR, o_ixl, o_ixbl, o_slcT, o_slcR, o_slcl, o_revT, o_revR, o_lenT, o_lenR, o_lenl, o_lenbl, o_lenD, o_lend, o_abs, o_int, o_intB, o_tupT, o_tupR, o_tupl, o_lstT, o_lstR, o_min2, o_max2, o_srt, o_repr, t_b, t_i, t_t, t_r, t_l, t_n, y_t, y_r, y_l, y_bl, z_t, z_r, l_r, l_l, it_sq, it_rng, it_rngC, it_zip, PIt.items_enum, List.getElem?_cons_zero, List.getElem?_cons_succ, List.set_cons_zero, List.set_cons_succ, Option.map_some, Option.bind_some, if_true, and_self, true_and, and_true, reduceIte, Bool.not_true, Bool.not_false, Bool.false_eq_true, Tgs.len, List.length_cons, List.length_nil, Nat.zero_add, Nat.reduceAdd, decide_true, decide_false, decide_eq_false hab]
          rcases total hg.row.ord (closed_of ha) (closed_of hb) hab with h | h
          · have h' := asymm h
            rw [h, h']
            rfl
          · have h' := asymm h
            rw [h, h']
            rfl
      cases hgt : gt (posOf rw) s t with
      | false => exact iF (w_end (tail _ fun ps h => h))
      | true =>
        rw [asymm hgt] at p6
        rw [gt_sub hgt] at p7
        rw [in_f2 hgt] at p8
        rw [in_u hgt] at p9
        rw [in_f1 hgt] at p10
        refine iT (w_st (w_ifF rfl ?_ (w_end (w_st (w_ifF rfl ?_ (w_end (w_end (tail _ fun ps h => h))))))))
        · simp only [pE.eq_1, pE.eq_2, pE.eq_3, pE.eq_4, pE.eq_5, pE.eq_6, pE.eq_7, pE.eq_8, pE.eq_9, pE.eq_10, pE.eq_11, pE.eq_12, pE.eq_13, pE.eq_14, pE.eq_15, pE.eq_16, pE.eq_17, pE.eq_18, pE.eq_19, pE.eq_20, pE.eq_21, pE.eq_22, pE.eq_23, pE.eq_24, pE.eq_25, pE.eq_26, pS.eq_1, pS.eq_2, pS.eq_3, pS.eq_4, pS.eq_5, pS.eq_6, pS.eq_7, pS.eq_8, pS.eq_9, pS.eq_10, pS.eq_11, pS.eq_12, pS.eq_13, pS.eq_14, pS.eq_15, pS.eq_16, pS.eq_17, pS.eq_18, pS.eq_19, pS.eq_22, pS.eq_24, pNew.eq_1, pNew.eq_2, pNew.eq_3, pNew.eq_4, pNew.eq_5, pNew.eq_6, pNew.eq_7, pE_comp, pE_comp2, pE_dcomp, pS_for, isNew, pSs_cons, pSs_nil, q_nx, q_rt, q_bk, q_ct, q_xc, pEs, pAs, pKV, pEo, pC, pIt, pwalk, pTg, pTgs, cB, cBD, pwipe, PR.bind_ok, PR.bind_exc, PR.ofOpt_some, PR.noExc_ok, PR.thenS_ok, PR.thenS_exc, PC.val_v, PRS.noXc, r_nx, r_rt, r_xc, a_v, a_l, a_bl, T.lim, o_add, o_sub, o_mul, o_div, o_mod, o_addT, o_addLL, o_eq, o_ne, o_lt, o_le, o_gt, o_ge, o_isN, o_isnN, o_isB, o_isnB, o_isT, o_isnT, o_isI, o_isnI, o_isL, o_isnL, eqv_int, o_ixT, o_ixR, o_ixl, o_ixbl, o_slcT, o_slcR, o_slcl, o_revT, o_revR, o_lenT, o_lenR, o_lenl, o_lenbl, o_lenD, o_lend, o_abs, o_int, o_intB, o_tupT, o_tupR, o_tupl, o_lstT, o_lstR, o_min2, o_max2, o_srt, o_repr, t_b, t_i, t_t, t_r, t_l, t_n, y_t, y_r, y_l, y_bl, z_t, z_r, l_r, l_l, it_sq, it_rng, it_rngC, it_zip, PIt.items_enum, List.getElem?_cons_zero, List.getElem?_cons_succ, List.set_cons_zero, List.set_cons_succ, Option.map_some, Option.bind_some, if_true, and_self, true_and, and_true, reduceIte, Bool.not_true, Bool.not_false, Bool.false_eq_true, Tgs.len, List.length_cons, List.length_nil, Nat.zero_add, Nat.reduceAdd, decide_true, decide_false, p6, q1, q2, p7]
        · simp only [pE.eq_1, pE.eq_2, pE.eq_3, pE.eq_4, pE.eq_5, pE.eq_6, pE.eq_7, pE.eq_8, pE.eq_9, pE.eq_10, pE.eq_11, pE.eq_12, pE.eq_13, pE.eq_14, pE.eq_15, pE.eq_16, pE.eq_17, pE.eq_18, pE.eq_19, pE.eq_20, pE.eq_21, pE.eq_22, pE.eq_23, pE.eq_24, pE.eq_25, pE.eq_26, pS.eq_1, pS.eq_2, pS.eq_3, pS.eq_4, pS.eq_5, pS.eq_6, pS.eq_7, pS.eq_8, pS.eq_9, pS.eq_10, pS.eq_11, pS.eq_12, pS.eq_13, pS.eq_14, pS.eq_15, pS.eq_16, pS.eq_17, pS.eq_18, pS.eq_19, pS.eq_22, pS.eq_24, pNew.eq_1, pNew.eq_2, pNew.eq_3, pNew.eq_4, pNew.eq_5, pNew.eq_6, pNew.eq_7, pE_comp, pE_comp2, pE_dcomp, pS_for, isNew, pSs_cons, pSs_nil, q_nx, q_rt, q_bk, q_ct, q_xc, pEs, pAs, pKV, pEo, pC, pIt, pwalk, pTg, pTgs, cB, cBD, pwipe, PR.bind_ok, PR.bind_exc, PR.ofOpt_some, PR.noExc_ok, PR.thenS_ok, PR.thenS_exc, PC.val_v, PRS.noXc, r_nx, r_rt, r_xc, a_v, a_l, a_bl, T.lim, o_add, o_sub, o_mul, o_div, o_mod, o_addT, o_addLL, o_eq, o_ne, o_lt, o_le, o_gt, o_ge, o_isN, o_isnN, o_isB, o_isnB, o_isT, o_isnT, o_isI, o_isnI, o_isL, o_isnL, eqv_int, o_ixT, o_ixR, o_ixl, o_ixbl, o_slcT, o_slcR, o_slcl, o_revT, o_revR, o_lenT, o_lenR, o_lenl, o_lenbl, o_lenD, o_lend, o_abs, o_int, o_intB, o_tupT, o_tupR, o_tupl, o_lstT, o_lstR, o_min2, o_max2, o_srt, o_repr, t_b, t_i, t_t, t_r, t_l, t_n, y_t, y_r, y_l, y_bl, z_t, z_r, l_r, l_l, it_sq, it_rng, it_rngC, it_zip, PIt.items_enum, List.getElem?_cons_zero, List.getElem?_cons_succ, List.set_cons_zero, List.set_cons_succ, Option.map_some, Option.bind_some, if_true, and_self, true_and, and_true, reduceIte, Bool.not_true, Bool.not_false, Bool.false_eq_true, Tgs.len, List.length_cons, List.length_nil, Nat.zero_add, Nat.reduceAdd, decide_true, decide_false, s2, s3, enc_fp, enc_gp, p8, p9, p10]
  · rintro ps ⟨x3, x4, x5, x6, x7, x8, x9, x10, x11, rfl⟩
    have r1 := refused_1 (M := 229) (by omega)
    have r2 := refused_2 (M := 229) (by omega)
    simp only [enc, kk] at r1 r2
    refine w_st (w_simple (r := .rt (.bl true)) rfl ?_ (ok_rt rfl))
    simp only [pE.eq_1, pE.eq_2, pE.eq_3, pE.eq_4, pE.eq_5, pE.eq_6, pE.eq_7, pE.eq_8, pE.eq_9, pE.eq_10, pE.eq_11, pE.eq_12, pE.eq_13, pE.eq_14, pE.eq_15, pE.eq_16, pE.eq_17, pE.eq_18, pE.eq_19, pE.eq_20, pE.eq_21, pE.eq_22, pE.eq_23, pE.eq_24, pE.eq_25, pE.eq_26, pS.eq_1, pS.eq_2, pS.eq_3, pS.eq_4, pS.eq_5, pS.eq_6, pS.eq_7, pS.eq_8, pS.eq_9, pS.eq_10, pS.eq_11, pS.eq_12, pS.eq_13, pS.eq_14, pS.eq_15, pS.eq_16, pS.eq_17, pS.eq_18, pS.eq_19, pS.eq_22, pS.eq_24, pNew.eq_1, pNew.eq_2, pNew.eq_3, pNew.eq_4, pNew.eq_5, pNew.eq_6, pNew.eq_7, pE_comp, pE_comp2, pE_dcomp, pS_for, isNew, pSs_cons, pSs_nil, q_nx, q_rt, q_bk, q_ct, q_xc, pEs, pAs, pKV, pEo, pC, pIt, pwalk, pTg, pTgs, cB, cBD, pwipe, PR.bind_ok, PR.bind_exc, PR.ofOpt_some, PR.noExc_ok, PR.thenS_ok, PR.thenS_exc, PC.val_v, PRS.noXc, r_nx, r_rt, r_xc, a_v, a_l, a_bl, T.lim, o_add, o_sub, o_mul, o_div, o_mod, o_addT, o_addLL, o_eq, o_ne, o_lt, o_le, o_gt, o_ge, o_isN, o_isnN, o_isB, o_isnB, o_isT, o_isnT, o_isI, o_isnI, o_isL, o_isnL, eqv_int, o_ixT, o_ixR, o_ixl, o_ixbl, o_slcT, o_slcR, o_slcl, o_revT, o_revR, o_lenT, o_lenR, o_lenl, o_lenbl, o_lenD, o_lend, o_abs, o_int, o_intB, o_tupT, o_tupR, o_tupl, o_lstT, o_lstR, o_min2, o_max2, o_srt, o_repr, t_b, t_i, t_t, t_r, t_l, t_n, y_t, y_r, y_l, y_bl, z_t, z_r, l_r, l_l, it_sq, it_rng, it_rngC, it_zip, PIt.items_enum, List.getElem?_cons_zero, List.getElem?_cons_succ, List.set_cons_zero, List.set_cons_succ, Option.map_some, Option.bind_some, if_true, and_self, true_and, and_true, reduceIte, Bool.not_true, Bool.not_false, Bool.false_eq_true, Tgs.len, List.length_cons, List.length_nil, Nat.zero_add, Nat.reduceAdd, decide_true, decide_false, s0, s1, s2, s3, r1, r2]
end Lw

end

section
set_option Elab.async false
set_option linter.all false
set_option maxRecDepth 100000
set_option maxHeartbeats 8000000
set_option autoImplicit false
/-! The text keeps the code. -/
namespace Lw
open PF PySem L2
def gnF : List Str := [("is_variable" : Str), ("variables_in" : Str), ("path_greater" : Str), ("_law_tape" : Str), ("_law_take" : Str), ("_law_first_order" : Str), ("_law_wrap" : Str), ("_law_vars_of" : Str), ("_law_subst" : Str), ("_law_greater" : Str), ("_law_is_refused" : Str), ("law" : Str)]
def gn : Gn := ⟨gnF, ["ProofError", "NoRule"], [], [], ["isinstance", "int", "len", "abs", "tuple", "range", "str", "all", "any", "repr", "enumerate", "zip"], [(12, 12), (53, 11)], [(15, 11)], [], ["Order"], [(139, 12), (139, 39), (139, 66), (139, 93), (31, 15), (34, 34)]⟩
def top (i : Nat) : Stmt := PySem.Challenge.pw_proofhouse_k20_whole_path_orders.main.body.getD i (.Pass ⟨0, 0, 0, 0⟩)
def mth (i j : Nat) : Stmt := match top i with
  | .ClassDef _ _ _ b _ _ _ _ _ _ _ => b.getD j (.Pass ⟨0, 0, 0, 0⟩)
  | _ => .Pass ⟨0, 0, 0, 0⟩
theorem sc_is_variable : FnScope ["term"] ["term"] (defScope (top 4)) := ⟨rfl, rfl, rfl, by decide +kernel, rfl, by decide +kernel, by decide +kernel⟩
theorem cm_is_variable : compSs 200 ⟨["term"], defScope (top 4), fun _ => true, true, true, gn⟩ (defBody (top 4)) = some b_is_variable := by kernel_rfl
theorem sc_variables_in : FnScope ["term", "found", "part"] ["term"] (defScope (top 5)) := ⟨rfl, rfl, rfl, by decide +kernel, rfl, by decide +kernel, by decide +kernel⟩
theorem cm_variables_in : compSs 200 ⟨["term", "found", "part"], defScope (top 5), fun _ => true, true, true, gn⟩ (defBody (top 5)) = some b_variables_in := by kernel_rfl
theorem sc_path_greater : FnScope ["row", "first", "second", "name"] ["row", "first", "second"] (defScope (top 7)) := ⟨rfl, rfl, rfl, by decide +kernel, rfl, by decide +kernel, by decide +kernel⟩
theorem cm_path_greater : compSs 200 ⟨["row", "first", "second", "name"], defScope (top 7), fun _ => true, true, true, gn⟩ (defBody (top 7)) = some b_path_greater := by kernel_rfl
theorem sc__law_tape : FnScope ["script", "cells", "seed", "cell"] ["script"] (defScope (top 9)) := ⟨rfl, rfl, rfl, by decide +kernel, rfl, by decide +kernel, by decide +kernel⟩
theorem cm__law_tape : compSs 200 ⟨["script", "cells", "seed", "cell"], defScope (top 9), fun _ => true, true, true, gn⟩ (defBody (top 9)) = some b__law_tape := by kernel_rfl
theorem sc__law_take : FnScope ["tape", "many", "mixed", "drawn"] ["tape", "many"] (defScope (top 10)) := ⟨rfl, rfl, rfl, by decide +kernel, rfl, by decide +kernel, by decide +kernel⟩
theorem cm__law_take : compSs 200 ⟨["tape", "many", "mixed", "drawn"], defScope (top 10), fun _ => true, true, true, gn⟩ (defBody (top 10)) = some b__law_take := by kernel_rfl
theorem sc__law_first_order : FnScope ["tape", "depth", "many", "name", "k"] ["tape", "depth", "many"] (defScope (top 14)) := ⟨rfl, rfl, rfl, by decide +kernel, rfl, by decide +kernel, by decide +kernel⟩
theorem cm__law_first_order : compSs 200 ⟨["tape", "depth", "many", "name", "k"], defScope (top 14), fun _ => true, true, true, gn⟩ (defBody (top 14)) = some b__law_first_order := by kernel_rfl
theorem sc__law_wrap : FnScope ["t", "part"] ["t"] (defScope (top 15)) := ⟨rfl, rfl, rfl, by decide +kernel, rfl, by decide +kernel, by decide +kernel⟩
theorem cm__law_wrap : compSs 200 ⟨["t", "part"], defScope (top 15), fun _ => true, true, true, gn⟩ (defBody (top 15)) = some b__law_wrap := by kernel_rfl
theorem sc__law_vars_of : FnScope ["t", "found", "part", "k"] ["t"] (defScope (top 16)) := ⟨rfl, rfl, rfl, by decide +kernel, rfl, by decide +kernel, by decide +kernel⟩
theorem cm__law_vars_of : compSs 200 ⟨["t", "found", "part", "k"], defScope (top 16), fun _ => true, true, true, gn⟩ (defBody (top 16)) = some b__law_vars_of := by kernel_rfl
theorem sc__law_subst : FnScope ["t", "values", "part"] ["t", "values"] (defScope (top 17)) := ⟨rfl, rfl, rfl, by decide +kernel, rfl, by decide +kernel, by decide +kernel⟩
theorem cm__law_subst : compSs 200 ⟨["t", "values", "part"], defScope (top 17), fun _ => true, true, true, gn⟩ (defBody (top 17)) = some b__law_subst := by kernel_rfl
theorem sc__law_greater : FnScope ["row", "s", "t", "other", "f", "g", "k", "part"] ["row", "s", "t"] (defScope (top 18)) := ⟨rfl, rfl, rfl, by decide +kernel, rfl, by decide +kernel, by decide +kernel⟩
theorem cm__law_greater : compSs 200 ⟨["row", "s", "t", "other", "f", "g", "k", "part"], defScope (top 18), fun _ => true, true, true, gn⟩ (defBody (top 18)) = some b__law_greater := by kernel_rfl
theorem sc__law_is_refused : FnScope ["row", "s", "t"] ["row", "s", "t"] (defScope (top 19)) := ⟨rfl, rfl, rfl, by decide +kernel, rfl, by decide +kernel, by decide +kernel⟩
theorem cm__law_is_refused : compSs 200 ⟨["row", "s", "t"], defScope (top 19), fun _ => true, true, true, gn⟩ (defBody (top 19)) = some b__law_is_refused := by kernel_rfl
theorem sc_law : FnScope ["script", "tape", "rows", "turn", "row", "values", "s", "t", "u", "one", "two", "k"] ["script"] (defScope (top 20)) := ⟨rfl, rfl, rfl, by decide +kernel, rfl, by decide +kernel, by decide +kernel⟩
theorem cm_law : compSs 200 ⟨["script", "tape", "rows", "turn", "row", "values", "s", "t", "u", "one", "two", "k"], defScope (top 20), fun _ => true, true, true, gn⟩ (defBody (top 20)) = some b_law := by kernel_rfl
theorem sc_Order___init__ : FnScope ["self", "row", "index", "name"] ["self", "row"] (defScope (mth 6 0)) := ⟨rfl, rfl, rfl, by decide +kernel, rfl, by decide +kernel, by decide +kernel⟩
theorem cm_Order___init__ : compSs 200 ⟨["self", "row", "index", "name"], defScope (mth 6 0), fun _ => true, true, true, gn⟩ (defBody (mth 6 0)) = some b_Order___init__ := by kernel_rfl
theorem sc_Order_rank : FnScope ["self", "name"] ["self", "name"] (defScope (mth 6 1)) := ⟨rfl, rfl, rfl, by decide +kernel, rfl, by decide +kernel, by decide +kernel⟩
theorem cm_Order_rank : compSs 200 ⟨["self", "name"], defScope (mth 6 1), fun _ => true, true, true, gn⟩ (defBody (mth 6 1)) = some b_Order_rank := by kernel_rfl
theorem sc_Order_is_greater : FnScope ["self", "first", "second", "one", "other", "part"] ["self", "first", "second"] (defScope (mth 6 2)) := ⟨rfl, rfl, rfl, by decide +kernel, rfl, by decide +kernel, by decide +kernel⟩
theorem cm_Order_is_greater : compSs 200 ⟨["self", "first", "second", "one", "other", "part"], defScope (mth 6 2), fun _ => true, true, true, gn⟩ (defBody (mth 6 2)) = some b_Order_is_greater := by kernel_rfl
theorem sc_Order_is_greater_row : FnScope ["self", "first", "second", "one", "other"] ["self", "first", "second"] (defScope (mth 6 3)) := ⟨rfl, rfl, rfl, by decide +kernel, rfl, by decide +kernel, by decide +kernel⟩
theorem cm_Order_is_greater_row : compSs 200 ⟨["self", "first", "second", "one", "other"], defScope (mth 6 3), fun _ => true, true, true, gn⟩ (defBody (mth 6 3)) = some b_Order_is_greater_row := by kernel_rfl
section
variable {K : PySem.W.Frag} {h : Heap} {mg : Str → Option Value}
theorem t_is_variable {f : Addr} {od an : Option Addr} {sl : Array (Option Value)} {oc kV dc pm cd ct : Value} (X : K.In h) (H : h.Ns mainGlobals mg)
    (a : PySem.W.nsIn K mainGlobals "is_variable" = some (some (.ref f))) (l : K.lookup f = some ⟨oc, od, .func (PySem.W.fnOf "is_variable" "is_variable" (defArgs (top 4)) (defBody (top 4)) (defScope (top 4)) .none kV dc pm an cd ct), sl⟩) (c : PySem.W.codeIn K cd "is_variable" = true) (k : PySem.W.keepIn K (.ref f) = true) : FnT K mg gn f_is_variable :=
  ⟨(top 4), f, _, ["term"], 200, ⟨⟨_, fun_mk l c k⟩, fun _ => PySem.W.mg_of X H a, fun us hl => match us, hl with | [_], _ => rfl, sc_is_variable, cm_is_variable, rfl, rfl⟩⟩
theorem t_variables_in {f : Addr} {od an : Option Addr} {sl : Array (Option Value)} {oc kV dc pm cd ct : Value} (X : K.In h) (H : h.Ns mainGlobals mg)
    (a : PySem.W.nsIn K mainGlobals "variables_in" = some (some (.ref f))) (l : K.lookup f = some ⟨oc, od, .func (PySem.W.fnOf "variables_in" "variables_in" (defArgs (top 5)) (defBody (top 5)) (defScope (top 5)) .none kV dc pm an cd ct), sl⟩) (c : PySem.W.codeIn K cd "variables_in" = true) (k : PySem.W.keepIn K (.ref f) = true) : FnT K mg gn f_variables_in :=
  ⟨(top 5), f, _, ["term", "found", "part"], 200, ⟨⟨_, fun_mk l c k⟩, fun _ => PySem.W.mg_of X H a, fun us hl => match us, hl with | [_], _ => rfl, sc_variables_in, cm_variables_in, rfl, rfl⟩⟩
theorem t_path_greater {f : Addr} {od an : Option Addr} {sl : Array (Option Value)} {oc kV dc pm cd ct : Value} (X : K.In h) (H : h.Ns mainGlobals mg)
    (a : PySem.W.nsIn K mainGlobals "path_greater" = some (some (.ref f))) (l : K.lookup f = some ⟨oc, od, .func (PySem.W.fnOf "path_greater" "path_greater" (defArgs (top 7)) (defBody (top 7)) (defScope (top 7)) .none kV dc pm an cd ct), sl⟩) (c : PySem.W.codeIn K cd "path_greater" = true) (k : PySem.W.keepIn K (.ref f) = true) : FnT K mg gn f_path_greater :=
  ⟨(top 7), f, _, ["row", "first", "second", "name"], 200, ⟨⟨_, fun_mk l c k⟩, fun _ => PySem.W.mg_of X H a, fun us hl => match us, hl with | [_, _, _], _ => rfl, sc_path_greater, cm_path_greater, rfl, rfl⟩⟩
theorem t__law_tape {f : Addr} {od an : Option Addr} {sl : Array (Option Value)} {oc kV dc pm cd ct : Value} (X : K.In h) (H : h.Ns mainGlobals mg)
    (a : PySem.W.nsIn K mainGlobals "_law_tape" = some (some (.ref f))) (l : K.lookup f = some ⟨oc, od, .func (PySem.W.fnOf "_law_tape" "_law_tape" (defArgs (top 9)) (defBody (top 9)) (defScope (top 9)) .none kV dc pm an cd ct), sl⟩) (c : PySem.W.codeIn K cd "_law_tape" = true) (k : PySem.W.keepIn K (.ref f) = true) : FnT K mg gn f__law_tape :=
  ⟨(top 9), f, _, ["script", "cells", "seed", "cell"], 200, ⟨⟨_, fun_mk l c k⟩, fun _ => PySem.W.mg_of X H a, fun us hl => match us, hl with | [_], _ => rfl, sc__law_tape, cm__law_tape, rfl, rfl⟩⟩
theorem t__law_take {f : Addr} {od an : Option Addr} {sl : Array (Option Value)} {oc kV dc pm cd ct : Value} (X : K.In h) (H : h.Ns mainGlobals mg)
    (a : PySem.W.nsIn K mainGlobals "_law_take" = some (some (.ref f))) (l : K.lookup f = some ⟨oc, od, .func (PySem.W.fnOf "_law_take" "_law_take" (defArgs (top 10)) (defBody (top 10)) (defScope (top 10)) .none kV dc pm an cd ct), sl⟩) (c : PySem.W.codeIn K cd "_law_take" = true) (k : PySem.W.keepIn K (.ref f) = true) : FnT K mg gn f__law_take :=
  ⟨(top 10), f, _, ["tape", "many", "mixed", "drawn"], 200, ⟨⟨_, fun_mk l c k⟩, fun _ => PySem.W.mg_of X H a, fun us hl => match us, hl with | [_, _], _ => rfl, sc__law_take, cm__law_take, rfl, rfl⟩⟩
theorem t__law_first_order {f : Addr} {od an : Option Addr} {sl : Array (Option Value)} {oc kV dc pm cd ct : Value} (X : K.In h) (H : h.Ns mainGlobals mg)
    (a : PySem.W.nsIn K mainGlobals "_law_first_order" = some (some (.ref f))) (l : K.lookup f = some ⟨oc, od, .func (PySem.W.fnOf "_law_first_order" "_law_first_order" (defArgs (top 14)) (defBody (top 14)) (defScope (top 14)) .none kV dc pm an cd ct), sl⟩) (c : PySem.W.codeIn K cd "_law_first_order" = true) (k : PySem.W.keepIn K (.ref f) = true) : FnT K mg gn f__law_first_order :=
  ⟨(top 14), f, _, ["tape", "depth", "many", "name", "k"], 200, ⟨⟨_, fun_mk l c k⟩, fun _ => PySem.W.mg_of X H a, fun us hl => match us, hl with | [_, _, _], _ => rfl, sc__law_first_order, cm__law_first_order, rfl, rfl⟩⟩
theorem t__law_wrap {f : Addr} {od an : Option Addr} {sl : Array (Option Value)} {oc kV dc pm cd ct : Value} (X : K.In h) (H : h.Ns mainGlobals mg)
    (a : PySem.W.nsIn K mainGlobals "_law_wrap" = some (some (.ref f))) (l : K.lookup f = some ⟨oc, od, .func (PySem.W.fnOf "_law_wrap" "_law_wrap" (defArgs (top 15)) (defBody (top 15)) (defScope (top 15)) .none kV dc pm an cd ct), sl⟩) (c : PySem.W.codeIn K cd "_law_wrap" = true) (k : PySem.W.keepIn K (.ref f) = true) : FnT K mg gn f__law_wrap :=
  ⟨(top 15), f, _, ["t", "part"], 200, ⟨⟨_, fun_mk l c k⟩, fun _ => PySem.W.mg_of X H a, fun us hl => match us, hl with | [_], _ => rfl, sc__law_wrap, cm__law_wrap, rfl, rfl⟩⟩
theorem t__law_vars_of {f : Addr} {od an : Option Addr} {sl : Array (Option Value)} {oc kV dc pm cd ct : Value} (X : K.In h) (H : h.Ns mainGlobals mg)
    (a : PySem.W.nsIn K mainGlobals "_law_vars_of" = some (some (.ref f))) (l : K.lookup f = some ⟨oc, od, .func (PySem.W.fnOf "_law_vars_of" "_law_vars_of" (defArgs (top 16)) (defBody (top 16)) (defScope (top 16)) .none kV dc pm an cd ct), sl⟩) (c : PySem.W.codeIn K cd "_law_vars_of" = true) (k : PySem.W.keepIn K (.ref f) = true) : FnT K mg gn f__law_vars_of :=
  ⟨(top 16), f, _, ["t", "found", "part", "k"], 200, ⟨⟨_, fun_mk l c k⟩, fun _ => PySem.W.mg_of X H a, fun us hl => match us, hl with | [_], _ => rfl, sc__law_vars_of, cm__law_vars_of, rfl, rfl⟩⟩
theorem t__law_subst {f : Addr} {od an : Option Addr} {sl : Array (Option Value)} {oc kV dc pm cd ct : Value} (X : K.In h) (H : h.Ns mainGlobals mg)
    (a : PySem.W.nsIn K mainGlobals "_law_subst" = some (some (.ref f))) (l : K.lookup f = some ⟨oc, od, .func (PySem.W.fnOf "_law_subst" "_law_subst" (defArgs (top 17)) (defBody (top 17)) (defScope (top 17)) .none kV dc pm an cd ct), sl⟩) (c : PySem.W.codeIn K cd "_law_subst" = true) (k : PySem.W.keepIn K (.ref f) = true) : FnT K mg gn f__law_subst :=
  ⟨(top 17), f, _, ["t", "values", "part"], 200, ⟨⟨_, fun_mk l c k⟩, fun _ => PySem.W.mg_of X H a, fun us hl => match us, hl with | [_, _], _ => rfl, sc__law_subst, cm__law_subst, rfl, rfl⟩⟩
theorem t__law_greater {f : Addr} {od an : Option Addr} {sl : Array (Option Value)} {oc kV dc pm cd ct : Value} (X : K.In h) (H : h.Ns mainGlobals mg)
    (a : PySem.W.nsIn K mainGlobals "_law_greater" = some (some (.ref f))) (l : K.lookup f = some ⟨oc, od, .func (PySem.W.fnOf "_law_greater" "_law_greater" (defArgs (top 18)) (defBody (top 18)) (defScope (top 18)) .none kV dc pm an cd ct), sl⟩) (c : PySem.W.codeIn K cd "_law_greater" = true) (k : PySem.W.keepIn K (.ref f) = true) : FnT K mg gn f__law_greater :=
  ⟨(top 18), f, _, ["row", "s", "t", "other", "f", "g", "k", "part"], 200, ⟨⟨_, fun_mk l c k⟩, fun _ => PySem.W.mg_of X H a, fun us hl => match us, hl with | [_, _, _], _ => rfl, sc__law_greater, cm__law_greater, rfl, rfl⟩⟩
theorem t__law_is_refused {f : Addr} {od an : Option Addr} {sl : Array (Option Value)} {oc kV dc pm cd ct : Value} (X : K.In h) (H : h.Ns mainGlobals mg)
    (a : PySem.W.nsIn K mainGlobals "_law_is_refused" = some (some (.ref f))) (l : K.lookup f = some ⟨oc, od, .func (PySem.W.fnOf "_law_is_refused" "_law_is_refused" (defArgs (top 19)) (defBody (top 19)) (defScope (top 19)) .none kV dc pm an cd ct), sl⟩) (c : PySem.W.codeIn K cd "_law_is_refused" = true) (k : PySem.W.keepIn K (.ref f) = true) : FnT K mg gn f__law_is_refused :=
  ⟨(top 19), f, _, ["row", "s", "t"], 200, ⟨⟨_, fun_mk l c k⟩, fun _ => PySem.W.mg_of X H a, fun us hl => match us, hl with | [_, _, _], _ => rfl, sc__law_is_refused, cm__law_is_refused, rfl, rfl⟩⟩
theorem t_law {f : Addr} {od an : Option Addr} {sl : Array (Option Value)} {oc kV dc pm cd ct : Value} (X : K.In h) (H : h.Ns mainGlobals mg)
    (a : PySem.W.nsIn K mainGlobals "law" = some (some (.ref f))) (l : K.lookup f = some ⟨oc, od, .func (PySem.W.fnOf "law" "law" (defArgs (top 20)) (defBody (top 20)) (defScope (top 20)) .none kV dc pm an cd ct), sl⟩) (c : PySem.W.codeIn K cd "law" = true) (k : PySem.W.keepIn K (.ref f) = true) : FnT K mg gn f_law :=
  ⟨(top 20), f, _, ["script", "tape", "rows", "turn", "row", "values", "s", "t", "u", "one", "two", "k"], 200, ⟨⟨_, fun_mk l c k⟩, fun _ => PySem.W.mg_of X H a, fun us hl => match us, hl with | [_], _ => rfl, sc_law, cm_law, rfl, rfl⟩⟩
theorem w_Order___init__ {f : Addr} {od an : Option Addr} {sl : Array (Option Value)} {oc kV dc pm cd ct : Value}
    (l : K.lookup f = some ⟨oc, od, .func (PySem.W.fnOf "__init__" "Order.__init__" (defArgs (mth 6 0)) (defBody (mth 6 0)) (defScope (mth 6 0)) .none kV dc pm an cd ct), sl⟩) (c : PySem.W.codeIn K cd "Order.__init__" = true) (k : PySem.W.keepIn K (.ref f) = true) : FnW K mg gn f_Order___init__ (mth 6 0) f (PySem.W.fnOf "__init__" "Order.__init__" (defArgs (mth 6 0)) (defBody (mth 6 0)) (defScope (mth 6 0)) .none kV dc pm an cd ct) ["self", "row", "index", "name"] 200 :=
  ⟨⟨_, fun_mk l c k⟩, fun z => absurd z (by decide +kernel), fun us hl => match us, hl with | [_, _], _ => rfl, sc_Order___init__, cm_Order___init__, rfl, rfl⟩
theorem w_Order_rank {f : Addr} {od an : Option Addr} {sl : Array (Option Value)} {oc kV dc pm cd ct : Value}
    (l : K.lookup f = some ⟨oc, od, .func (PySem.W.fnOf "rank" "Order.rank" (defArgs (mth 6 1)) (defBody (mth 6 1)) (defScope (mth 6 1)) .none kV dc pm an cd ct), sl⟩) (c : PySem.W.codeIn K cd "Order.rank" = true) (k : PySem.W.keepIn K (.ref f) = true) : FnW K mg gn f_Order_rank (mth 6 1) f (PySem.W.fnOf "rank" "Order.rank" (defArgs (mth 6 1)) (defBody (mth 6 1)) (defScope (mth 6 1)) .none kV dc pm an cd ct) ["self", "name"] 200 :=
  ⟨⟨_, fun_mk l c k⟩, fun z => absurd z (by decide +kernel), fun us hl => match us, hl with | [_, _], _ => rfl, sc_Order_rank, cm_Order_rank, rfl, rfl⟩
theorem w_Order_is_greater {f : Addr} {od an : Option Addr} {sl : Array (Option Value)} {oc kV dc pm cd ct : Value}
    (l : K.lookup f = some ⟨oc, od, .func (PySem.W.fnOf "is_greater" "Order.is_greater" (defArgs (mth 6 2)) (defBody (mth 6 2)) (defScope (mth 6 2)) .none kV dc pm an cd ct), sl⟩) (c : PySem.W.codeIn K cd "Order.is_greater" = true) (k : PySem.W.keepIn K (.ref f) = true) : FnW K mg gn f_Order_is_greater (mth 6 2) f (PySem.W.fnOf "is_greater" "Order.is_greater" (defArgs (mth 6 2)) (defBody (mth 6 2)) (defScope (mth 6 2)) .none kV dc pm an cd ct) ["self", "first", "second", "one", "other", "part"] 200 :=
  ⟨⟨_, fun_mk l c k⟩, fun z => absurd z (by decide +kernel), fun us hl => match us, hl with | [_, _, _], _ => rfl, sc_Order_is_greater, cm_Order_is_greater, rfl, rfl⟩
theorem w_Order_is_greater_row {f : Addr} {od an : Option Addr} {sl : Array (Option Value)} {oc kV dc pm cd ct : Value}
    (l : K.lookup f = some ⟨oc, od, .func (PySem.W.fnOf "is_greater_row" "Order.is_greater_row" (defArgs (mth 6 3)) (defBody (mth 6 3)) (defScope (mth 6 3)) .none kV dc pm an cd ct), sl⟩) (c : PySem.W.codeIn K cd "Order.is_greater_row" = true) (k : PySem.W.keepIn K (.ref f) = true) : FnW K mg gn f_Order_is_greater_row (mth 6 3) f (PySem.W.fnOf "is_greater_row" "Order.is_greater_row" (defArgs (mth 6 3)) (defBody (mth 6 3)) (defScope (mth 6 3)) .none kV dc pm an cd ct) ["self", "first", "second", "one", "other"] 200 :=
  ⟨⟨_, fun_mk l c k⟩, fun z => absurd z (by decide +kernel), fun us hl => match us, hl with | [_, _, _], _ => rfl, sc_Order_is_greater_row, cm_Order_is_greater_row, rfl, rfl⟩
end
theorem all_mk {K : PySem.W.Frag} {h : Heap} {mg : Str → Option Value} (X : K.In h) (H : h.Ns mainGlobals mg)
    {f0 : Addr} {od0 an0 : Option Addr} {sl0 : Array (Option Value)} {oc0 kV0 dc0 pm0 cd0 ct0 : Value} (a0 : PySem.W.nsIn K mainGlobals "is_variable" = some (some (.ref f0)))
    {f1 : Addr} {od1 an1 : Option Addr} {sl1 : Array (Option Value)} {oc1 kV1 dc1 pm1 cd1 ct1 : Value} (a1 : PySem.W.nsIn K mainGlobals "variables_in" = some (some (.ref f1)))
    {f2 : Addr} {od2 an2 : Option Addr} {sl2 : Array (Option Value)} {oc2 kV2 dc2 pm2 cd2 ct2 : Value} (a2 : PySem.W.nsIn K mainGlobals "path_greater" = some (some (.ref f2)))
    {f3 : Addr} {od3 an3 : Option Addr} {sl3 : Array (Option Value)} {oc3 kV3 dc3 pm3 cd3 ct3 : Value} (a3 : PySem.W.nsIn K mainGlobals "_law_tape" = some (some (.ref f3)))
    {f4 : Addr} {od4 an4 : Option Addr} {sl4 : Array (Option Value)} {oc4 kV4 dc4 pm4 cd4 ct4 : Value} (a4 : PySem.W.nsIn K mainGlobals "_law_take" = some (some (.ref f4)))
    {f5 : Addr} {od5 an5 : Option Addr} {sl5 : Array (Option Value)} {oc5 kV5 dc5 pm5 cd5 ct5 : Value} (a5 : PySem.W.nsIn K mainGlobals "_law_first_order" = some (some (.ref f5)))
    {f6 : Addr} {od6 an6 : Option Addr} {sl6 : Array (Option Value)} {oc6 kV6 dc6 pm6 cd6 ct6 : Value} (a6 : PySem.W.nsIn K mainGlobals "_law_wrap" = some (some (.ref f6)))
    {f7 : Addr} {od7 an7 : Option Addr} {sl7 : Array (Option Value)} {oc7 kV7 dc7 pm7 cd7 ct7 : Value} (a7 : PySem.W.nsIn K mainGlobals "_law_vars_of" = some (some (.ref f7)))
    {f8 : Addr} {od8 an8 : Option Addr} {sl8 : Array (Option Value)} {oc8 kV8 dc8 pm8 cd8 ct8 : Value} (a8 : PySem.W.nsIn K mainGlobals "_law_subst" = some (some (.ref f8)))
    {f9 : Addr} {od9 an9 : Option Addr} {sl9 : Array (Option Value)} {oc9 kV9 dc9 pm9 cd9 ct9 : Value} (a9 : PySem.W.nsIn K mainGlobals "_law_greater" = some (some (.ref f9)))
    {f10 : Addr} {od10 an10 : Option Addr} {sl10 : Array (Option Value)} {oc10 kV10 dc10 pm10 cd10 ct10 : Value} (a10 : PySem.W.nsIn K mainGlobals "_law_is_refused" = some (some (.ref f10)))
    {f11 : Addr} {od11 an11 : Option Addr} {sl11 : Array (Option Value)} {oc11 kV11 dc11 pm11 cd11 ct11 : Value} (a11 : PySem.W.nsIn K mainGlobals "law" = some (some (.ref f11)))
    {f12 : Addr} {od12 an12 : Option Addr} {sl12 : Array (Option Value)} {oc12 kV12 dc12 pm12 cd12 ct12 : Value}
    {f13 : Addr} {od13 an13 : Option Addr} {sl13 : Array (Option Value)} {oc13 kV13 dc13 pm13 cd13 ct13 : Value}
    {f14 : Addr} {od14 an14 : Option Addr} {sl14 : Array (Option Value)} {oc14 kV14 dc14 pm14 cd14 ct14 : Value}
    {f15 : Addr} {od15 an15 : Option Addr} {sl15 : Array (Option Value)} {oc15 kV15 dc15 pm15 cd15 ct15 : Value}
    {O0 : Addr} (ox0 : PySem.W.nsIn K mainGlobals "Order" = some (some (.ref O0))) (om0 : PySem.W.makesIn K O0 = true) (ok0 : PySem.W.keepIn K (.ref O0) = true) (og0 : PySem.W.plainGet K O0 Str.empty = true) (oh0 : PySem.W.hasDictIn K O0 = true) (op0 : PySem.W.plainOver K O0 = true) (os0 : PySem.W.findIn K (.ref O0) "__setattr__" = some (some (.builtin "object.__setattr__")))
    (of0_0 : PySem.W.findIn K (.ref O0) "ranks" = some none)
    (mf12 : PySem.W.findIn K (.ref O0) "__init__" = some (some (.ref f12))) (mi12 : PySem.W.isFn K (.ref f12) = true)
    (mf13 : PySem.W.findIn K (.ref O0) "rank" = some (some (.ref f13))) (mi13 : PySem.W.isFn K (.ref f13) = true)
    (mf14 : PySem.W.findIn K (.ref O0) "is_greater" = some (some (.ref f14))) (mi14 : PySem.W.isFn K (.ref f14) = true)
    (mf15 : PySem.W.findIn K (.ref O0) "is_greater_row" = some (some (.ref f15))) (mi15 : PySem.W.isFn K (.ref f15) = true)
    (l0 : K.lookup f0 = some ⟨oc0, od0, .func (PySem.W.fnOf "is_variable" "is_variable" (defArgs (top 4)) (defBody (top 4)) (defScope (top 4)) .none kV0 dc0 pm0 an0 cd0 ct0), sl0⟩) (c0 : PySem.W.codeIn K cd0 "is_variable" = true) (k0 : PySem.W.keepIn K (.ref f0) = true)
    (l1 : K.lookup f1 = some ⟨oc1, od1, .func (PySem.W.fnOf "variables_in" "variables_in" (defArgs (top 5)) (defBody (top 5)) (defScope (top 5)) .none kV1 dc1 pm1 an1 cd1 ct1), sl1⟩) (c1 : PySem.W.codeIn K cd1 "variables_in" = true) (k1 : PySem.W.keepIn K (.ref f1) = true)
    (l2 : K.lookup f2 = some ⟨oc2, od2, .func (PySem.W.fnOf "path_greater" "path_greater" (defArgs (top 7)) (defBody (top 7)) (defScope (top 7)) .none kV2 dc2 pm2 an2 cd2 ct2), sl2⟩) (c2 : PySem.W.codeIn K cd2 "path_greater" = true) (k2 : PySem.W.keepIn K (.ref f2) = true)
    (l3 : K.lookup f3 = some ⟨oc3, od3, .func (PySem.W.fnOf "_law_tape" "_law_tape" (defArgs (top 9)) (defBody (top 9)) (defScope (top 9)) .none kV3 dc3 pm3 an3 cd3 ct3), sl3⟩) (c3 : PySem.W.codeIn K cd3 "_law_tape" = true) (k3 : PySem.W.keepIn K (.ref f3) = true)
    (l4 : K.lookup f4 = some ⟨oc4, od4, .func (PySem.W.fnOf "_law_take" "_law_take" (defArgs (top 10)) (defBody (top 10)) (defScope (top 10)) .none kV4 dc4 pm4 an4 cd4 ct4), sl4⟩) (c4 : PySem.W.codeIn K cd4 "_law_take" = true) (k4 : PySem.W.keepIn K (.ref f4) = true)
    (l5 : K.lookup f5 = some ⟨oc5, od5, .func (PySem.W.fnOf "_law_first_order" "_law_first_order" (defArgs (top 14)) (defBody (top 14)) (defScope (top 14)) .none kV5 dc5 pm5 an5 cd5 ct5), sl5⟩) (c5 : PySem.W.codeIn K cd5 "_law_first_order" = true) (k5 : PySem.W.keepIn K (.ref f5) = true)
    (l6 : K.lookup f6 = some ⟨oc6, od6, .func (PySem.W.fnOf "_law_wrap" "_law_wrap" (defArgs (top 15)) (defBody (top 15)) (defScope (top 15)) .none kV6 dc6 pm6 an6 cd6 ct6), sl6⟩) (c6 : PySem.W.codeIn K cd6 "_law_wrap" = true) (k6 : PySem.W.keepIn K (.ref f6) = true)
    (l7 : K.lookup f7 = some ⟨oc7, od7, .func (PySem.W.fnOf "_law_vars_of" "_law_vars_of" (defArgs (top 16)) (defBody (top 16)) (defScope (top 16)) .none kV7 dc7 pm7 an7 cd7 ct7), sl7⟩) (c7 : PySem.W.codeIn K cd7 "_law_vars_of" = true) (k7 : PySem.W.keepIn K (.ref f7) = true)
    (l8 : K.lookup f8 = some ⟨oc8, od8, .func (PySem.W.fnOf "_law_subst" "_law_subst" (defArgs (top 17)) (defBody (top 17)) (defScope (top 17)) .none kV8 dc8 pm8 an8 cd8 ct8), sl8⟩) (c8 : PySem.W.codeIn K cd8 "_law_subst" = true) (k8 : PySem.W.keepIn K (.ref f8) = true)
    (l9 : K.lookup f9 = some ⟨oc9, od9, .func (PySem.W.fnOf "_law_greater" "_law_greater" (defArgs (top 18)) (defBody (top 18)) (defScope (top 18)) .none kV9 dc9 pm9 an9 cd9 ct9), sl9⟩) (c9 : PySem.W.codeIn K cd9 "_law_greater" = true) (k9 : PySem.W.keepIn K (.ref f9) = true)
    (l10 : K.lookup f10 = some ⟨oc10, od10, .func (PySem.W.fnOf "_law_is_refused" "_law_is_refused" (defArgs (top 19)) (defBody (top 19)) (defScope (top 19)) .none kV10 dc10 pm10 an10 cd10 ct10), sl10⟩) (c10 : PySem.W.codeIn K cd10 "_law_is_refused" = true) (k10 : PySem.W.keepIn K (.ref f10) = true)
    (l11 : K.lookup f11 = some ⟨oc11, od11, .func (PySem.W.fnOf "law" "law" (defArgs (top 20)) (defBody (top 20)) (defScope (top 20)) .none kV11 dc11 pm11 an11 cd11 ct11), sl11⟩) (c11 : PySem.W.codeIn K cd11 "law" = true) (k11 : PySem.W.keepIn K (.ref f11) = true)
    (l12 : K.lookup f12 = some ⟨oc12, od12, .func (PySem.W.fnOf "__init__" "Order.__init__" (defArgs (mth 6 0)) (defBody (mth 6 0)) (defScope (mth 6 0)) .none kV12 dc12 pm12 an12 cd12 ct12), sl12⟩) (c12 : PySem.W.codeIn K cd12 "Order.__init__" = true) (k12 : PySem.W.keepIn K (.ref f12) = true)
    (l13 : K.lookup f13 = some ⟨oc13, od13, .func (PySem.W.fnOf "rank" "Order.rank" (defArgs (mth 6 1)) (defBody (mth 6 1)) (defScope (mth 6 1)) .none kV13 dc13 pm13 an13 cd13 ct13), sl13⟩) (c13 : PySem.W.codeIn K cd13 "Order.rank" = true) (k13 : PySem.W.keepIn K (.ref f13) = true)
    (l14 : K.lookup f14 = some ⟨oc14, od14, .func (PySem.W.fnOf "is_greater" "Order.is_greater" (defArgs (mth 6 2)) (defBody (mth 6 2)) (defScope (mth 6 2)) .none kV14 dc14 pm14 an14 cd14 ct14), sl14⟩) (c14 : PySem.W.codeIn K cd14 "Order.is_greater" = true) (k14 : PySem.W.keepIn K (.ref f14) = true)
    (l15 : K.lookup f15 = some ⟨oc15, od15, .func (PySem.W.fnOf "is_greater_row" "Order.is_greater_row" (defArgs (mth 6 3)) (defBody (mth 6 3)) (defScope (mth 6 3)) .none kV15 dc15 pm15 an15 cd15 ct15), sl15⟩) (c15 : PySem.W.codeIn K cd15 "Order.is_greater_row" = true) (k15 : PySem.W.keepIn K (.ref f15) = true)
    {C0 : Addr} (x0 : PySem.W.nsIn K mainGlobals "ProofError" = some (some (.ref C0))) (xe0 : PySem.W.excIn K C0 [.type "ValueError", .type "Exception", .type "BaseException", .type "object"] "ValueError.__new__" = true) (xk0 : PySem.W.keepIn K (.ref C0) = true) (xs0 : PySem.W.subIn K (.ref C0) (.type "BaseException") = some true) (xt0 : PySem.W.typeIn K (.ref C0) = some (.type "type")) (xi0 : PySem.W.isClsIn K C0 = true) (xb0 : PySem.W.subIn K (.ref C0) (.ref C0) = some true)
    {C1 : Addr} (x1 : PySem.W.nsIn K mainGlobals "NoRule" = some (some (.ref C1))) (xe1 : PySem.W.excIn K C1 [.type "ValueError", .type "Exception", .type "BaseException", .type "object"] "ValueError.__new__" = true) (xk1 : PySem.W.keepIn K (.ref C1) = true) (xs1 : PySem.W.subIn K (.ref C1) (.type "BaseException") = some true) (xt1 : PySem.W.typeIn K (.ref C1) = some (.type "type")) (xi1 : PySem.W.isClsIn K C1 = true) (xb1 : PySem.W.subIn K (.ref C1) (.ref C1) = some true)
    (z0 : PySem.W.nsIn K mainGlobals "isinstance" = some none)
    (z1 : PySem.W.nsIn K mainGlobals "int" = some none)
    (z2 : PySem.W.nsIn K mainGlobals "len" = some none)
    (z3 : PySem.W.nsIn K mainGlobals "abs" = some none)
    (z4 : PySem.W.nsIn K mainGlobals "tuple" = some none)
    (z5 : PySem.W.nsIn K mainGlobals "range" = some none)
    (z6 : PySem.W.nsIn K mainGlobals "str" = some none)
    (z7 : PySem.W.nsIn K mainGlobals "all" = some none)
    (z8 : PySem.W.nsIn K mainGlobals "any" = some none)
    (z9 : PySem.W.nsIn K mainGlobals "repr" = some none)
    (z10 : PySem.W.nsIn K mainGlobals "enumerate" = some none)
    (z11 : PySem.W.nsIn K mainGlobals "zip" = some none) : ∃ A : Ad, Txt K mg A fns G gn := by
  refine ⟨⟨fun i => if 1000 ≤ i then [O0][i - 1000]? else [C0, C1][i]?, fun _ => none⟩, ⟨?_, ⟨["Order.__init__", "Order.rank", "Order.is_greater", "Order.is_greater_row"], rfl⟩, ?_, ?_, ?_, by decide, ?_, ?_⟩⟩
  · intro F hF
    simp only [fns, List.mem_cons, List.mem_nil_iff, or_false] at hF
    rcases hF with rfl | rfl | rfl | rfl | rfl | rfl | rfl | rfl | rfl | rfl | rfl | rfl | rfl | rfl | rfl | rfl
    · exact t_is_variable X H a0 l0 c0 k0
    · exact t_variables_in X H a1 l1 c1 k1
    · exact t_path_greater X H a2 l2 c2 k2
    · exact t__law_tape X H a3 l3 c3 k3
    · exact t__law_take X H a4 l4 c4 k4
    · exact t__law_first_order X H a5 l5 c5 k5
    · exact t__law_wrap X H a6 l6 c6 k6
    · exact t__law_vars_of X H a7 l7 c7 k7
    · exact t__law_subst X H a8 l8 c8 k8
    · exact t__law_greater X H a9 l9 c9 k9
    · exact t__law_is_refused X H a10 l10 c10 k10
    · exact t_law X H a11 l11 c11 k11
    · exact ⟨_, f12, _, _, _, w_Order___init__ l12 c12 k12⟩
    · exact ⟨_, f13, _, _, _, w_Order_rank l13 c13 k13⟩
    · exact ⟨_, f14, _, _, _, w_Order_is_greater l14 c14 k14⟩
    · exact ⟨_, f15, _, _, _, w_Order_is_greater_row l15 c15 k15⟩
  · intro x hx
    have hx : x ∈ gn.blt := by simpa using hx
    simp only [gn, List.mem_cons, List.mem_nil_iff, or_false] at hx
    rcases hx with rfl | rfl | rfl | rfl | rfl | rfl | rfl | rfl | rfl | rfl | rfl | rfl
    · exact PySem.W.mg_none_of X H z0
    · exact PySem.W.mg_none_of X H z1
    · exact PySem.W.mg_none_of X H z2
    · exact PySem.W.mg_none_of X H z3
    · exact PySem.W.mg_none_of X H z4
    · exact PySem.W.mg_none_of X H z5
    · exact PySem.W.mg_none_of X H z6
    · exact PySem.W.mg_none_of X H z7
    · exact PySem.W.mg_none_of X H z8
    · exact PySem.W.mg_none_of X H z9
    · exact PySem.W.mg_none_of X H z10
    · exact PySem.W.mg_none_of X H z11
  · intro i x hi
    simp [gn] at hi
  · intro i x hi
    match i, hi with
    | 0, hi => cases hi; exact ⟨C0, PySem.W.mg_of X H x0, rfl, ⟨xe0, xk0, xs0, xt0, exm_self xs0 xi0 xt0 xb0⟩⟩
    | 1, hi => cases hi; exact ⟨C1, PySem.W.mg_of X H x1, rfl, ⟨xe1, xk1, xs1, xt1, exm_self xs1 xi1 xt1 xb1⟩⟩
    | _ + 2, hi => simp [gn] at hi
  · intro c OC hc
    unfold Tab.cls at hc
    split at hc
    · rename_i hle
      obtain ⟨j, rfl⟩ : ∃ j, c = 1000 + j := ⟨c - 1000, (Nat.add_sub_cancel' hle).symm⟩
      rw [show OFF = 1000 from rfl, Nat.add_sub_cancel_left] at hc
      have hca : ∀ Z : Addr, ([O0] : List Addr)[j]? = some Z → (if 1000 ≤ 1000 + j then ([O0] : List Addr)[1000 + j - 1000]? else ([C0, C1] : List Addr)[1000 + j]?) = some Z := fun Z z => by rw [if_pos (show 1000 ≤ 1000 + j from hle), Nat.add_sub_cancel_left]; exact z
      match j, hc, hca with
      | 0, hc, hca =>
        cases hc
        refine ⟨O0, hca _ rfl, ⟨og0, oh0, op0, os0⟩, fun f hf => ?_, fun m i hm => ?_⟩
        · have hf : f ∈ (["ranks"] : List Str) := by simpa using hf
          simp only [List.mem_cons, List.mem_nil_iff, or_false] at hf
          rcases hf with rfl
          · exact of0_0
        · have hm := mem_lookup hm
          simp only [List.mem_cons, List.mem_nil_iff, or_false, Prod.mk.injEq] at hm
          rcases hm with ⟨rfl, rfl⟩ | ⟨rfl, rfl⟩ | ⟨rfl, rfl⟩
          · exact ⟨f_Order_rank, _, f13, _, _, _, rfl, w_Order_rank l13 c13 k13, ⟨mf13, mi13, k13⟩⟩
          · exact ⟨f_Order_is_greater, _, f14, _, _, _, rfl, w_Order_is_greater l14 c14 k14, ⟨mf14, mi14, k14⟩⟩
          · exact ⟨f_Order_is_greater_row, _, f15, _, _, _, rfl, w_Order_is_greater_row l15 c15 k15, ⟨mf15, mi15, k15⟩⟩
      | _ + 1, hc, _ => simp [G] at hc
    · cases hc
  · intro c x hi
    match c, hi with
    | 0, hi => cases hi; exact ⟨O0, 12, f12, PySem.W.mg_of X H ox0, rfl, rfl, ⟨om0, mf12, mi12, ok0⟩, f_Order___init__, _, _, _, _, rfl, w_Order___init__ l12 c12 k12⟩
    | _ + 1, hi => simp [gn] at hi
end Lw

end

open PySem PySem.W PyProof.Rows
set_option maxRecDepth 100000 in
set_option maxHeartbeats 0 in
theorem PySem.Challenge.cw_proofhouse_k20_whole_path_orders_holds : PySem.Challenge.rw_proofhouse_k20_whole_path_orders.Holds := by
  w_on; o_law; k_head; (case hw => w_witness2)
  k_fill
  refine PF.law_walk (l := PySem.Challenge.rw_proofhouse_k20_whole_path_orders) (fns := Lw.fns) (G := Lw.G) (gn := Lw.gn) (N := 230) (i := 11) (F := Lw.f_law) (x := "script") rfl rfl ⟨rfl, by decide, by decide⟩ rfl (by decide +kernel) rfl rfl rfl (fun w h Y => PySem.W.kIn_of Y) ?F Lw.law_holds
  case F =>
    intro w mg fa h KX G hmg
    refine' Lw.all_mk KX G ?a0 ?a1 ?a2 ?a3 ?a4 ?a5 ?a6 ?a7 ?a8 ?a9 ?a10 ?a11 ?ox0 ?om0 ?ok0 ?og0 ?oh0 ?op0 ?os0 ?of0_0 ?mf12 ?mi12 ?mf13 ?mi13 ?mf14 ?mi14 ?mf15 ?mi15 ?l0 ?c0 ?k0 ?l1 ?c1 ?k1 ?l2 ?c2 ?k2 ?l3 ?c3 ?k3 ?l4 ?c4 ?k4 ?l5 ?c5 ?k5 ?l6 ?c6 ?k6 ?l7 ?c7 ?k7 ?l8 ?c8 ?k8 ?l9 ?c9 ?k9 ?l10 ?c10 ?k10 ?l11 ?c11 ?k11 ?l12 ?c12 ?k12 ?l13 ?c13 ?k13 ?l14 ?c14 ?k14 ?l15 ?c15 ?k15 ?x0 ?xe0 ?xk0 ?xs0 ?xt0 ?xi0 ?xb0 ?x1 ?xe1 ?xk1 ?xs1 ?xt1 ?xi1 ?xb1 ?z0 ?z1 ?z2 ?z3 ?z4 ?z5 ?z6 ?z7 ?z8 ?z9 ?z10 ?z11
    (case a0 => k_is)
    (case a1 => k_is)
    (case a2 => k_is)
    (case a3 => k_is)
    (case a4 => k_is)
    (case a5 => k_is)
    (case a6 => k_is)
    (case a7 => k_is)
    (case a8 => k_is)
    (case a9 => k_is)
    (case a10 => k_is)
    (case a11 => k_is)
    (case ox0 => k_is)
    (case om0 => k_is)
    (case ok0 => k_is)
    (case og0 => k_is)
    (case oh0 => k_is)
    (case op0 => k_is)
    (case os0 => k_is)
    (case of0_0 => k_is)
    (case mf12 => k_is)
    (case mi12 => k_is)
    (case mf13 => k_is)
    (case mi13 => k_is)
    (case mf14 => k_is)
    (case mi14 => k_is)
    (case mf15 => k_is)
    (case mi15 => k_is)
    (case l0 => k_is)
    (case c0 => k_is)
    (case k0 => k_is)
    (case l1 => k_is)
    (case c1 => k_is)
    (case k1 => k_is)
    (case l2 => k_is)
    (case c2 => k_is)
    (case k2 => k_is)
    (case l3 => k_is)
    (case c3 => k_is)
    (case k3 => k_is)
    (case l4 => k_is)
    (case c4 => k_is)
    (case k4 => k_is)
    (case l5 => k_is)
    (case c5 => k_is)
    (case k5 => k_is)
    (case l6 => k_is)
    (case c6 => k_is)
    (case k6 => k_is)
    (case l7 => k_is)
    (case c7 => k_is)
    (case k7 => k_is)
    (case l8 => k_is)
    (case c8 => k_is)
    (case k8 => k_is)
    (case l9 => k_is)
    (case c9 => k_is)
    (case k9 => k_is)
    (case l10 => k_is)
    (case c10 => k_is)
    (case k10 => k_is)
    (case l11 => k_is)
    (case c11 => k_is)
    (case k11 => k_is)
    (case l12 => k_is)
    (case c12 => k_is)
    (case k12 => k_is)
    (case l13 => k_is)
    (case c13 => k_is)
    (case k13 => k_is)
    (case l14 => k_is)
    (case c14 => k_is)
    (case k14 => k_is)
    (case l15 => k_is)
    (case c15 => k_is)
    (case k15 => k_is)
    (case x0 => k_is)
    (case xe0 => k_exc)
    (case xk0 => k_is)
    (case xs0 => k_is)
    (case xt0 => k_is)
    (case xi0 => k_is)
    (case xb0 => first | rfl | k_is)
    (case x1 => k_is)
    (case xe1 => k_exc)
    (case xk1 => k_is)
    (case xs1 => k_is)
    (case xt1 => k_is)
    (case xi1 => k_is)
    (case xb1 => first | rfl | k_is)
    (case z0 => k_is)
    (case z1 => k_is)
    (case z2 => k_is)
    (case z3 => k_is)
    (case z4 => k_is)
    (case z5 => k_is)
    (case z6 => k_is)
    (case z7 => k_is)
    (case z8 => k_is)
    (case z9 => k_is)
    (case z10 => k_is)
    (case z11 => k_is)
